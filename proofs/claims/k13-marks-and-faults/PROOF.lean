import PyProof.Rows.All
import Wide.All
import OpenK.AllK
import Wide.FinOn
import HandS.ForMost
import HandS.WideBits
import HandS.Exc
import HandS.TryOnly
import HandS.ExcOwn
import HandS.WordsExc
import HandS.WordsList
import HandS.IsInst
import HandS.ExcCtx
import HandS.Hot
import HandS.HotCalls
import HandS.ExcIs
import HandS.ExcField
import HandS.Defaults
import HandS.Flow
import HandS.Style
import HandS.TupAny
import HandS.HeadHook1
import HandS.HeadHook2
import HandS.CallSlots
import KE.GoesEnum
import HandS.HeadEnd
import HandS.HeadHook3
import HandS.Head3
import HandS.Zip
import HandS.ExcInit
import HandS.Nested
import KE.KExcSuper
import KE.KExcIs
import HandS.TupMul
import KE.BitLaws
import HandS.Head0
import HandS.Head1
import HandS.Head2
import PySem.Challenge.RW_onlycarries_k13_marks_and_faults
set_option Elab.async false
set_option linter.all false
set_option maxRecDepth 100000
set_option maxHeartbeats 0
/-! Plain data of a small Python, and what its expressions, statements and defs compute: total Lean functions, no program in sight. -/
namespace Py
open PySem L2

inductive D where
  | non | bl (b : Bool) | int (i : Int) | str (s : String)
  | tup (xs : List D) | lst (xs : List D) | dic (kvs : List (D × D)) | ins (c : String) (fs : List (String × D))
  deriving Inhabited

inductive Res (α : Type) where
  | ok (a : α) | exc (c : String) (fs : List (String × D)) | stuck
@[reducible] def Res.bind {α β : Type} (r : Res α) (f : α → Res β) : Res β := match r with
  | .ok a => f a | .exc c fs => .exc c fs | .stuck => .stuck
instance : Monad Res := { pure := Res.ok, bind := Res.bind }
@[simp] theorem bind_ok {α β : Type} (a : α) (f : α → Res β) : (Res.ok a >>= f) = f a := rfl
@[simp] theorem bind_exc {α β : Type} (c : String) (fs) (f : α → Res β) : ((Res.exc c fs : Res α) >>= f) = .exc c fs := rfl
@[simp] theorem bind_stuck {α β : Type} (f : α → Res β) : ((Res.stuck : Res α) >>= f) = .stuck := rfl
@[simp] theorem pure_ok {α : Type} (a : α) : (pure a : Res α) = .ok a := rfl
def noexc {α : Type} : Res α → Res α
  | .ok a => .ok a | .exc _ _ => .stuck | .stuck => .stuck
@[simp] theorem noexc_ok {α : Type} (a : α) : noexc (.ok a : Res α) = .ok a := rfl

def SZ : Nat := 16777216
abbrev Env := List (Option D)
abbrev EM := Env → Res D
abbrev TM := Env → Res Bool
abbrev AM := Env → Res (List D)
inductive Fl where
  | next (e : Env) | ret (d : D) | brk (e : Env) | cnt (e : Env)
abbrev SM := Env → Res Fl

/-! ### data -/
def chk (n : Nat) (d : D) : Res D := if n ≤ SZ then .ok d else .stuck
theorem chk_ok {n : Nat} {d : D} (h : n ≤ SZ) : chk n d = .ok d := if_pos h
/-- no list, dict or instance within -/
def imm : D → Bool
  | .non | .bl _ | .int _ | .str _ => true
  | .tup xs => immL xs
  | .lst _ | .dic _ | .ins _ _ => false
where immL : List D → Bool
  | [] => true
  | d :: r => imm d && immL r
/-- no dict or instance within, at most n deep: == walks it -/
def pl : Nat → D → Bool
  | _, .non => true
  | _, .bl _ => true
  | _, .int _ => true
  | _, .str _ => true
  | n + 1, .tup xs => xs.all (pl n)
  | n + 1, .lst xs => xs.all (pl n)
  | _, _ => false
def plain (d : D) : Bool := pl 64 d
/-- no object but a text -/
def flatD : D → Bool
  | .non => true
  | .bl _ => true
  | .int _ => true
  | .str _ => true
  | _ => false
def b2i (b : Bool) : Int := if b then 1 else 0
/-- == of plain data -/
def eqv : D → D → Bool
  | .non, .non => true
  | .bl a, .bl b => a == b
  | .bl a, .int j => b2i a == j
  | .int i, .bl b => i == b2i b
  | .int i, .int j => i == j
  | .str a, .str b => a == b
  | .tup xs, .tup ys => eqvL xs ys
  | .lst xs, .lst ys => eqvL xs ys
  | _, _ => false
where eqvL : List D → List D → Bool
  | [], [] => true
  | x :: xs, y :: ys => eqv x y && eqvL xs ys
  | _, _ => false
inductive Ty where
  | non | bl | int | str | tup | lst | dic | cls (c : String)
  deriving DecidableEq
def isI (t : Ty) : D → Bool
  | .non => decide (t = .non)
  | .bl _ => decide (t = .bl) || decide (t = .int)
  | .int _ => decide (t = .int)
  | .str _ => decide (t = .str)
  | .tup _ => decide (t = .tup)
  | .lst _ => decide (t = .lst)
  | .dic _ => decide (t = .dic)
  | .ins c _ => decide (t = .cls c)

/-! ### operators -/
def oadd : D → D → Res D
  | .int i, .int j => .ok (.int (i + j))
  | .str a, .str b => if a.length + b.length ≤ SZ then .ok (.str (a ++ b)) else .stuck
  | .tup a, .tup b => if a.length + b.length ≤ SZ then .ok (.tup (a ++ b)) else .stuck
  | .lst a, .lst b => if a.length + b.length ≤ SZ then .ok (.lst (a ++ b)) else .stuck
  | _, _ => .stuck
def osub : D → D → Res D
  | .int i, .int j => .ok (.int (i - j))
  | _, _ => .stuck
def B64 : Nat := 18446744073709551616
def omul : D → D → Res D
  | .int i, .int j => if i.natAbs < B64 ∨ j.natAbs < B64 then .ok (.int (i * j)) else .stuck
  | _, _ => .stuck
/-- a list so many times -/
def olrep : D → D → Res D
  | .lst xs, .int k => if xs.length ≤ 1000 ∧ k.natAbs ≤ 1000 then .ok (.lst (List.replicate k.toNat xs).flatten) else .stuck
  | _, _ => .stuck
/-- a tuple so many times -/
def otrep : D → D → Res D
  | .tup xs, .int k => if xs.length ≤ 1000 ∧ k.natAbs ≤ 1000 then .ok (.tup (List.replicate k.toNat xs).flatten) else .stuck
  | _, _ => .stuck
def ofdiv : D → D → Res D
  | .int i, .int j => if 0 < j ∧ j < 1073741824 then .ok (.int (i / j)) else .stuck
  | _, _ => .stuck
def omod : D → D → Res D
  | .int i, .int j => if 0 < j then .ok (.int (i % j)) else .stuck
  | _, _ => .stuck
def opow : D → D → Res D
  | .int i, .int j => if 0 ≤ j ∧ j ≤ 1000000 ∧ i.natAbs < 18446744073709551616 then .ok (.int (i ^ j.toNat)) else .stuck
  | _, _ => .stuck
def oshl : D → D → Res D
  | .int i, .int j => if 0 ≤ j ∧ (Builtin.Int.intBits i : Int) + j ≤ 134217728 then .ok (.int (i * 2 ^ j.toNat)) else .stuck
  | _, _ => .stuck
def oshr : D → D → Res D
  | .int i, .int j => if 0 ≤ j then .ok (.int (i / 2 ^ j.toNat)) else .stuck
  | _, _ => .stuck
def oand : D → D → Res D
  | .int i, .int j => .ok (.int (Builtin.bitAnd i j))
  | _, _ => .stuck
def oor : D → D → Res D
  | .int i, .int j => .ok (.int (Builtin.bitOr i j))
  | _, _ => .stuck
def oxor : D → D → Res D
  | .int i, .int j => .ok (.int (Builtin.bitXor i j))
  | _, _ => .stuck
def oneg : D → Res D
  | .int i => .ok (.int (-i))
  | _ => .stuck
def oinv : D → Res D
  | .int i => .ok (.int (Builtin.bitNot i))
  | _ => .stuck
def opt : Option D → Res D
  | some d => .ok d
  | none => .stuck
def tyOf : D → Ty
  | .non => .non | .bl _ => .bl | .int _ => .int | .str _ => .str | .tup _ => .tup | .lst _ => .lst | .dic _ => .dic | .ins c _ => .cls c
/-- an instance's class is among these, so is a class that is asked for -/
def inCs (cs : List String) : Ty → Bool
  | .cls c => cs.contains c
  | _ => true
def oisi (cs : List String) (ts : List Ty) (d : D) : Res D := if inCs cs (tyOf d) && ts.all (fun t => inCs cs t && decide (t ≠ .non)) then .ok (.bl (ts.any fun t => isI t d)) else .stuck
def oattr (cs : List String) (f : String) : D → Res D
  | .ins c fs => if cs.contains c then opt (fs.lookup f) else .stuck
  | _ => .stuck
/-- x += y of numbers -/
def oiadd : D → D → Res D
  | .int i, .int j => .ok (.int (i + j))
  | _, _ => .stuck
def oior : D → D → Res D
  | .int i, .int j => .ok (.int (Builtin.bitOr i j))
  | _, _ => .stuck
def oixor : D → D → Res D
  | .int i, .int j => .ok (.int (Builtin.bitXor i j))
  | _, _ => .stuck
def oiand : D → D → Res D
  | .int i, .int j => .ok (.int (Builtin.bitAnd i j))
  | _, _ => .stuck
def oisub : D → D → Res D
  | .int i, .int j => .ok (.int (i - j))
  | _, _ => .stuck
def olt : D → D → Res D
  | .int i, .int j => .ok (.bl (decide (i < j)))
  | _, _ => .stuck
def ole : D → D → Res D
  | .int i, .int j => .ok (.bl (decide (i ≤ j)))
  | _, _ => .stuck
def ogt : D → D → Res D
  | .int i, .int j => .ok (.bl (decide (j < i)))
  | _, _ => .stuck
def oge : D → D → Res D
  | .int i, .int j => .ok (.bl (decide (j ≤ i)))
  | _, _ => .stuck
def oeq (x y : D) : Res D := if plain x && plain y then .ok (.bl (eqv x y)) else .stuck
def one (x y : D) : Res D := if plain x && plain y then .ok (.bl (!eqv x y)) else .stuck
/-- x in ys -/
def mem (x : D) : List D → Bool
  | [] => false
  | y :: r => eqv y x || mem x r
def oin : D → D → Res D
  | x, .lst ys => if flatD x && ys.all flatD then .ok (.bl (mem x ys)) else .stuck
  | x, .tup ys => if flatD x && ys.all flatD then .ok (.bl (mem x ys)) else .stuck
  | _, _ => .stuck
def onotin : D → D → Res D
  | x, .lst ys => if flatD x && ys.all flatD then .ok (.bl (!mem x ys)) else .stuck
  | x, .tup ys => if flatD x && ys.all flatD then .ok (.bl (!mem x ys)) else .stuck
  | _, _ => .stuck
def isNon : D → Bool
  | .non => true
  | _ => false
def oisN (x : D) : Res D := .ok (.bl (isNon x))
def onotN (x : D) : Res D := .ok (.bl (!isNon x))
/-- x is True, x is False, x a truth -/
def oisB : D → D → Res D
  | .bl c, .bl b => .ok (.bl (decide (c = b)))
  | _, _ => .stuck
def onotB : D → D → Res D
  | .bl c, .bl b => .ok (.bl (!decide (c = b)))
  | _, _ => .stuck
def truthy : D → Res Bool
  | .non => .ok false
  | .bl b => .ok b
  | .int i => .ok (i != 0)
  | .str s => if s.length ≤ SZ then .ok (s.length != 0) else .stuck
  | .tup xs => .ok (!xs.isEmpty)
  | .lst xs => .ok (!xs.isEmpty)
  | _ => .stuck
def onb : D → Res D
  | .bl k => .ok (.bl (!k))
  | _ => .stuck
def onot (x : D) : Res D := truthy x >>= fun b => .ok (.bl (!b))

/-! ### subscripts -/
def find (k : D) : List (D × D) → Option D
  | [] => none
  | (a, v) :: r => if eqv a k then some v else find k r
def oidx : D → D → Res D
  | .lst xs, .int i => opt (atI xs i)
  | .tup xs, .int i => opt (atI xs i)
  | .str s, .int i => if s.length ≤ SZ then opt ((atI s.toList i).map fun c => .str (String.ofList [c])) else .stuck
  | .dic kvs, k => opt (find k kvs)
  | _, _ => .stuck
/-- the items from lo up to hi -/
def cut {α : Type} (xs : List α) (lo hi : Option Int) : List α := (xs.drop (HT.sIx xs.length 0 lo)).take (HT.sIx xs.length xs.length hi - HT.sIx xs.length 0 lo)
def oslc : D → Option Int → Option Int → Res D
  | .lst xs, lo, hi => .ok (.lst (cut xs lo hi))
  | .tup xs, lo, hi => .ok (.tup (cut xs lo hi))
  | .str s, lo, hi => if s.length ≤ SZ then .ok (.str (String.ofList (cut s.toList lo hi))) else .stuck
  | _, _, _ => .stuck
def orev : D → Res D
  | .lst xs => .ok (.lst xs.reverse)
  | _ => .stuck
def attr (f : String) : D → Res D
  | .ins _ fs => opt (fs.lookup f)
  | _ => .stuck

/-! ### a table of the module: texts to numbers -/
def ohas (tab : List (String × Int)) : D → Res D
  | .str s => .ok (.bl (tab.lookup s).isSome)
  | _ => .stuck
def onothas (tab : List (String × Int)) : D → Res D
  | .str s => .ok (.bl (!(tab.lookup s).isSome))
  | _ => .stuck
def olook (tab : List (String × Int)) : D → Res D
  | .str s => opt ((tab.lookup s).map D.int)
  | _ => .stuck

/-! ### built-in calls -/
def blen : D → Res D
  | .lst xs => .ok (.int xs.length)
  | .tup xs => .ok (.int xs.length)
  | .str s => if s.length ≤ SZ then .ok (.int s.length) else .stuck
  | .dic kvs => .ok (.int kvs.length)
  | _ => .stuck
def bint : D → Res D
  | .int i => .ok (.int i)
  | .bl b => .ok (.int (b2i b))
  | _ => .stuck
def btuple : D → Res D
  | .lst xs => .ok (.tup xs)
  | .tup xs => .ok (.tup xs)
  | _ => .stuck
def blist : D → Res D
  | .lst xs => .ok (.lst xs)
  | .tup xs => .ok (.lst xs)
  | _ => .stuck
def intsOf : List D → Option (List Int)
  | [] => some []
  | .int i :: r => (intsOf r).map (i :: ·)
  | _ :: _ => none
def boolsOf : List D → Option (List Bool)
  | [] => some []
  | .bl i :: r => (boolsOf r).map (i :: ·)
  | _ :: _ => none
def bsum : D → Res D
  | .lst xs => match intsOf xs with | some is => .ok (.int is.sum) | none => .stuck
  | _ => .stuck
def ball : D → Res D
  | .lst xs => match boolsOf xs with | some bs => .ok (.bl (bs.all id)) | none => .stuck
  | _ => .stuck
def bany : D → Res D
  | .lst xs => match boolsOf xs with | some bs => .ok (.bl (bs.any id)) | none => .stuck
  | _ => .stuck
def bmax2 : D → D → Res D
  | .int i, .int j => .ok (.int (if j > i then j else i))
  | _, _ => .stuck
def bmin2 : D → D → Res D
  | .int i, .int j => .ok (.int (if j < i then j else i))
  | _, _ => .stuck
def babs : D → Res D
  | .int i => .ok (.int (if i < 0 then -i else i))
  | _ => .stuck
def bbits : D → Res D
  | .int i => .ok (.int (Builtin.Int.intBits i : Nat))
  | _ => .stuck

/-! ### expressions -/
def var (i : Nat) : EM := fun e => match e[i]? with | some (some d) => .ok d | _ => .stuck
def cst (d : D) : EM := fun _ => .ok d
def un (f : D → Res D) (a : EM) : EM := fun e => a e >>= f
def bin (f : D → D → Res D) (a b : EM) : EM := fun e => a e >>= fun x => b e >>= fun y => f x y
def argN : AM := fun _ => .ok []
def argC (a : EM) (r : AM) : AM := fun e => a e >>= fun x => r e >>= fun xs => .ok (x :: xs)
def tupE (a : AM) : EM := fun e => a e >>= fun xs => chk xs.length (.tup xs)
def lstE (a : AM) : EM := fun e => a e >>= fun xs => chk xs.length (.lst xs)
/-- x and y, x or y as values, x a truth -/
def andE (a b : EM) : EM := fun e => a e >>= fun x => match x with | .bl true => b e | .bl false => .ok (.bl false) | _ => .stuck
def orE (a b : EM) : EM := fun e => a e >>= fun x => match x with | .bl false => b e | .bl true => .ok (.bl true) | _ => .stuck
/-- a < b < c -/
def chain (f g : D → D → Res D) (a b c : EM) : EM := fun e => a e >>= fun x => b e >>= fun y => f x y >>= fun z => match z with
  | .bl true => c e >>= fun u => g y u
  | .bl false => .ok (.bl false)
  | _ => .stuck
def tst (a : EM) : TM := fun e => a e >>= truthy
def andT (a b : TM) : TM := fun e => a e >>= fun x => if x then b e else .ok false
def orT (a b : TM) : TM := fun e => a e >>= fun x => if x then .ok true else b e
def notT (a : TM) : TM := fun e => a e >>= fun x => .ok (!x)
def blE (a : TM) : EM := fun e => a e >>= fun x => .ok (.bl x)
def ifE (t : TM) (a b : EM) : EM := fun e => t e >>= fun x => if x then a e else b e
def slc (a : EM) (lo hi : Option EM) : EM := fun e => a e >>= fun x => bnd lo e >>= fun i => bnd hi e >>= fun j => oslc x i j
where bnd : Option EM → Env → Res (Option Int)
  | none, _ => .ok none
  | some m, e => m e >>= fun d => match d with | .int i => .ok (some i) | _ => .stuck
def isIE (ts : List Ty) (a : EM) : EM := fun e => a e >>= fun x => .ok (.bl (ts.any fun t => isI t x))
def call (f : List D → Res D) (a : AM) : EM := fun e => a e >>= f
/-- a call that gives back a new list, or what is no list -/
def callF (f : List D → Res D) (a : AM) : EM := fun e => a e >>= fun ds => match f ds with
  | .ok .non => .stuck
  | r => r
/-- a call with a list that the caller owns: what comes back holds no list -/
def callI (f : List D → Res D) (a : AM) : EM := fun e => a e >>= fun ds => match f ds with
  | .ok d => if imm d then .ok d else .stuck
  | .exc c fs => if fs.all (fun q => imm q.2) then .exc c fs else .stuck
  | .stuck => .stuck
/-- o.m(..), o of class c -/
def callM (c m : String) (f : List D → Res D) (a : EM) (am : AM) : EM := fun e => a e >>= fun o => match o with
  | .ins c' fs => if c' = c ∧ (fs.lookup m).isNone = true then am e >>= fun ds => f (o :: ds) else .stuck
  | _ => .stuck
/-! what is walked -/
abbrev IM := Env → Res (List D)
def iseq (a : EM) : IM := fun e => a e >>= fun x => match x with | .lst xs => .ok xs | .tup xs => .ok xs | _ => .stuck
def B62 : Nat := 4611686018427387904
def rngL (lo hi : Int) : List D := (List.range (hi - lo).toNat).map fun i => .int (lo + (i : Nat))
def irng1 (a : EM) : IM := fun e => a e >>= fun x => match x with
  | .int n => if n.natAbs < B62 then .ok (rngL 0 n) else .stuck
  | _ => .stuck
def irng2 (a b : EM) : IM := fun e => a e >>= fun x => b e >>= fun y => match x, y with
  | .int m, .int n => if m.natAbs < B62 ∧ n.natAbs < B62 then .ok (rngL m n) else .stuck
  | _, _ => .stuck
def enumL (n : Nat) : List D → List D
  | [] => []
  | d :: r => .tup [.int n, d] :: enumL (n + 1) r
def ienum (a : EM) : IM := fun e => iseq a e >>= fun xs => .ok (enumL 0 xs)
def seqOf : D → Option (Bool × List D)
  | .lst xs => some (false, xs)
  | .tup xs => some (true, xs)
  | _ => none
def ozip (a b : D) : Res (List D) := match seqOf a, seqOf b with
  | some (_, xs), some (_, ys) => .ok ((xs.zip ys).map fun p => .tup [p.1, p.2])
  | _, _ => .stuck
def izip (a b : EM) : IM := fun e => a e >>= fun x => b e >>= fun y => ozip x y
/-! targets -/
def lift {α : Type} : Option α → Res α
  | some a => .ok a
  | none => .stuck
@[simp] theorem lift_some {α : Type} (a : α) : lift (some a) = .ok a := rfl
@[simp] theorem lift_none {α : Type} : lift (none : Option α) = .stuck := rfl
abbrev GM := D → Env → Option Env
def gnm (i : Nat) : GM := fun d e => some (e.set i (some d))
def gtupL : List GM → List D → Env → Option Env
  | [], [], e => some e
  | g :: gs, d :: ds, e => (g d e).bind (gtupL gs ds)
  | _, _, _ => none
def gtup (gs : List GM) : GM := fun d e => match d with | .tup xs => gtupL gs xs e | _ => none
/-! comprehensions -/
def wipe (e : Env) : List Nat → Env
  | [] => e
  | i :: r => (wipe e r).set i none
def compL (f : D → Res (Option D)) : List D → Res (List D)
  | [] => .ok []
  | x :: xs => f x >>= fun o => compL f xs >>= fun ys => .ok (match o with | some y => y :: ys | none => ys)
def yes : TM := fun _ => .ok true
def compF (vs : List Nat) (g : GM) (t : TM) (elt : EM) (e : Env) (x : D) : Res (Option D) :=
  lift (g x (wipe e vs)) >>= fun e1 => t e1 >>= fun b => if b then elt e1 >>= fun y => .ok (some y) else .ok none
def lcE (it : IM) (vs : List Nat) (g : GM) (t : TM) (elt : EM) : EM := fun e => it e >>= fun xs =>
  noexc (compL (compF vs g t elt e) xs) >>= fun ys => chk xs.length (.lst ys)

/-! ### statements -/
def seq (a b : SM) : SM := fun e => a e >>= fun f => match f with | .next e' => b e' | r => .ok r
def skip : SM := fun e => .ok (.next e)
def asg (g : GM) (m : EM) : SM := fun e => m e >>= fun d => lift (g d e) >>= fun e' => .ok (.next e')
def aug (i : Nat) (f : D → D → Res D) (m : EM) : SM := fun e => var i e >>= fun x => m e >>= fun y => f x y >>= fun z => .ok (.next (e.set i (some z)))
def drop (m : EM) : SM := fun e => m e >>= fun _ => .ok (.next e)
def ret (m : EM) : SM := fun e => m e >>= fun d => .ok (.ret d)
def retN : SM := fun _ => .ok (.ret .non)
def ite (t : TM) (a b : SM) : SM := fun e => t e >>= fun x => if x then a e else b e
def brk : SM := fun e => .ok (.brk e)
def cnt : SM := fun e => .ok (.cnt e)
def forL (body : D → Env → Res Fl) : List D → Env → Res Fl
  | [], e => .ok (.next e)
  | x :: xs, e => match body x e with
    | .ok (.next e') => forL body xs e'
    | .ok (.cnt e') => forL body xs e'
    | .ok (.brk e') => .ok (.next e')
    | .ok (.ret d) => .ok (.ret d)
    | .exc c fs => .exc c fs
    | .stuck => .stuck
def forB (g : GM) (body : SM) (x : D) (e : Env) : Res Fl := lift (g x e) >>= body
def for_ (it : IM) (g : GM) (body : SM) : SM := fun e => it e >>= fun xs => forL (forB g body) xs e
def FUEL : Nat := 1000000000000
def whileL (t : TM) (body : SM) : Nat → Env → Res Fl
  | 0, _ => .stuck
  | n + 1, e => t e >>= fun b => if b then (match body e with
      | .ok (.next e') => whileL t body n e'
      | .ok (.cnt e') => whileL t body n e'
      | .ok (.brk e') => .ok (.next e')
      | .ok (.ret d) => .ok (.ret d)
      | .exc c fs => .exc c fs
      | .stuck => .stuck) else .ok (.next e)
def while_ (t : TM) (body : SM) : SM := whileL t body FUEL
/-- a name's own list grows -/
def app (i : Nat) (m : EM) : SM := fun e => var i e >>= fun l => match l with
  | .lst xs => m e >>= fun d => if xs.length < SZ then .ok (.next (e.set i (some (.lst (xs ++ [d]))))) else .stuck
  | _ => .stuck
/-- xs[j] = v of a name's own list -/
def setL (i : Nat) (j m : EM) : SM := fun e => var i e >>= fun l => match l with
  | .lst xs => m e >>= fun d => j e >>= fun k => match k with
    | .int z => match ixN xs.length z with
      | some n => .ok (.next (e.set i (some (.lst (xs.set n d)))))
      | none => .stuck
    | _ => .stuck
  | _ => .stuck
def putF (f : String) (d : D) : List (String × D) → List (String × D)
  | [] => [(f, d)]
  | (g, x) :: r => if g = f then (f, d) :: r else (g, x) :: putF f d r
/-- self.f = v in an __init__ -/
def setF (i : Nat) (cs : List String) (f : String) (m : EM) : SM := fun e => var i e >>= fun o => match o with
  | .ins c fs => if cs.contains c ∧ fs.length < 1000 then m e >>= fun d => .ok (.next (e.set i (some (.ins c (putF f d fs))))) else .stuck
  | _ => .stuck
/-- raise C(..) -/
def rais (c : String) (ns : List String) (a : AM) : SM := fun e => a e >>= fun ds => if ds.length = ns.length then .exc c (ns.zip ds).reverse else .stuck

/-- the arguments in the parameters' order -/
def perm {α : Type} (π : List Nat) (ws : List α) : List α := π.filterMap fun i => ws[i]?
def kwc (n : Nat) (π : List Nat) (f : List D → Res D) (ds : List D) : Res D := if ds.length = n then f (perm π ds) else .stuck
/-- code that is not reached -/
def dead : SM := fun _ => .stuck
def deadE : EM := fun _ => .stuck
def thru (m : SM) : SM := fun e => noexc (m e)
/-! ### errors that are caught -/
/-- try: b, except ..: what is done with the error's class and fields; i: the name's slot -/
def tryE (es : List String) (i : Nat) (b : SM) (h : String → List (String × D) → SM) : SM := fun e => match b e with
  | .exc c fs => if es.contains c && decide (i < e.length) then (match h c fs (e.set i none) with
      | .ok (.next e') => .ok (.next (e'.set i none))
      | .ok (.ret d) => .ok (.ret d)
      | _ => .stuck) else .stuck
  | r => r
def xisa (c : String) (ts : List String) : Bool := ts.any fun t => c == t || (t == "CarryError" || t == "ValueError")
/-- isinstance(e, (..)) of the caught error -/
def xis (es all : List String) (c : String) (ts : List String) : EM := fun _ => if es.contains c && ts.all all.contains then .ok (.bl (xisa c ts)) else .stuck
/-- e.f -/
def xfld (es fl : List String) (c f : String) (fs : List (String × D)) : EM := fun _ => if es.contains c && fl.contains f then opt (fs.lookup f) else .stuck
/-! ### defs -/
def done : Res Fl → Res D
  | .ok (.next _) => .ok .non
  | .ok (.ret d) => .ok d
  | .ok (.brk _) => .stuck
  | .ok (.cnt _) => .stuck
  | .exc c fs => .exc c fs
  | .stuck => .stuck
/-- a def of p parameters and n names -/
def fn (p n : Nat) (body : SM) (ds : List D) : Res D := if ds.length = p then done (body (ds.map some ++ List.replicate (n - p) none)) else .stuck
def made (p n : Nat) (cls : String) (body : SM) (ds : List D) : Res D := if ds.length + 1 = p then
  match body ((some (.ins cls []) :: ds.map some) ++ List.replicate (n - p) none) with
  | .ok (.next (some (.ins c fs) :: _)) => .ok (.ins c fs)
  | .exc c fs => .exc c fs
  | _ => .stuck else .stuck
end Py

/-! What plain data look like in the abstract heap, and the readings that say: this code computes that. -/
namespace Py
open PySem L2
abbrev Frag := PySem.W.Frag
/-- the class that a module's name stands for -/
def ca (K : Frag) (c : String) : Addr := He.ga K (Str.ofString c)
theorem ofS_inj {a b : String} (h : Str.ofString a = Str.ofString b) : a = b := by
  rw [Str.ofString_eq_toList, Str.ofString_eq_toList] at h
  have h1 : a.toList.map Char.toNat = b.toList.map Char.toNat := by
    have := congrArg (fun s : Str => s.cps.toList) h
    simpa using this
  have h2 : a.toList = b.toList := by
    have hc : ∀ x y : Char, x.toNat = y.toNat → x = y := fun x y e => by
      apply Char.ext
      apply UInt32.toNat_inj.mp
      exact e
    generalize a.toList = l at h1
    generalize b.toList = m at h1
    induction l generalizing m with
    | nil => cases m with
      | nil => rfl
      | cons _ _ => simp at h1
    | cons x l ih => cases m with
      | nil => simp at h1
      | cons y m =>
        simp only [List.map_cons, List.cons.injEq] at h1
        rw [hc _ _ h1.1, ih m h1.2]
  exact String.ext_iff.mpr h2
/-- an address set to be avoided -/
abbrev AS := Addr → Prop
mutual
def Rep (K : Frag) (A : AS) (H : Hp) : D → V → Prop
  | .non, v => v = .non
  | .bl b, v => v = .bl b
  | .int i, v => v = .int i
  | .str s, v => v = .str (Str.ofString s)
  | .tup xs, v => ∃ a vs, v = .ref a ∧ SqT K H a vs ∧ RepL K A H xs vs
  | .lst xs, v => ∃ a vs, v = .ref a ∧ ¬ A a ∧ Rd H a (.lst vs) ∧ RepL K A H xs vs
  | .dic _, _ => False
  | .ins c fs, v => ∃ a dx fvs, v = .ref a ∧ ¬ A a ∧ H a = some (.ins (ca K c) dx fvs) ∧ RepF K A H fs fvs
def RepL (K : Frag) (A : AS) (H : Hp) : List D → List V → Prop
  | [], vs => vs = []
  | d :: ds, vs => ∃ v r, vs = v :: r ∧ Rep K A H d v ∧ RepL K A H ds r
def RepF (K : Frag) (A : AS) (H : Hp) : List (String × D) → List (Str × V) → Prop
  | [], fs => fs = []
  | (n, d) :: r, fs => ∃ v q, fs = (Str.ofString n, v) :: q ∧ Rep K A H d v ∧ RepF K A H r q
end
/-- a tuple never changes -/
def still : HO → Prop
  | .tup _ => True
  | .frz _ (.tup _) => True
  | _ => False
/-- from H to H': what is not in A is kept, the new A' has of the old heap only A -/
structure Mv (A : AS) (H : Hp) (A' : AS) (H' : Hp) : Prop where
  av : ∀ a, A' a → A a ∨ H a = none
  kp : ∀ a o, H a = some o → (¬ A a ∨ still o) → H' a = some o
theorem Mv.same {A : AS} {H H' : Hp} (s : Same H H') : Mv A H A H' := ⟨fun _ h => .inl h, fun a o e _ => s a o e⟩
theorem Mv.less {A A' : AS} {H : Hp} (s : ∀ a, A' a → A a) : Mv A H A' H := ⟨fun a h => .inl (s a h), fun _ _ e _ => e⟩
theorem Mv.refl {A : AS} {H : Hp} : Mv A H A H := .same (Same.refl H)
theorem Mv.trans {A A1 A2 : AS} {H H1 H2 : Hp} (h : Mv A H A1 H1) (k : Mv A1 H1 A2 H2) : Mv A H A2 H2 := by
  refine ⟨fun a x => ?_, fun a o e q => ?_⟩
  · rcases k.av a x with y | y
    · exact h.av a y
    · cases e : H a with
      | none => exact .inr rfl
      | some o =>
        by_cases hA : A a
        · exact .inl hA
        · rw [h.kp a o e (.inl hA)] at y
          cases y
  · refine k.kp a o (h.kp a o e q) ?_
    rcases q with q | q
    · refine .inl fun y => ?_
      rcases h.av a y with z | z
      · exact q z
      · rw [e] at z
        cases z
    · exact .inr q
theorem Rd.move {A A' : AS} {H H' : Hp} {a : Addr} {u : HO} (m : Mv A H A' H') (h : Rd H a u) (n : ¬ A a) : Rd H' a u ∧ ¬ A' a := by
  have key : ∀ o, H a = some o → H' a = some o ∧ ¬ A' a := fun o e => ⟨m.kp a o e (.inl n), fun x => by
    rcases m.av a x with y | y
    · exact n y
    · rw [e] at y
      cases y⟩
  rcases h with h | ⟨o, h⟩
  · exact ⟨.inl (key _ h).1, (key _ h).2⟩
  · exact ⟨.inr ⟨o, (key _ h).1⟩, (key _ h).2⟩
theorem SqT.move {K : Frag} {A A' : AS} {H H' : Hp} {a : Addr} {vs : List V} (m : Mv A H A' H') (h : SqT K H a vs) : SqT K H' a vs := by
  rcases h with (h | ⟨o, h⟩) | h
  · exact .inl (.inl (m.kp a _ h (.inr trivial)))
  · exact .inl (.inr ⟨o, m.kp a _ h (.inr trivial)⟩)
  · exact .inr h
mutual
theorem Rep.move {K : Frag} {A A' : AS} {H H' : Hp} (m : Mv A H A' H') : ∀ (d : D) (v : V), Rep K A H d v → Rep K A' H' d v
  | .non, _, h => h
  | .bl _, _, h => h
  | .int _, _, h => h
  | .str _, _, h => h
  | .tup xs, v, h => by
    simp only [Rep] at h ⊢
    obtain ⟨a, vs, e, q, r⟩ := h
    exact ⟨a, vs, e, SqT.move m q, RepL.move m xs vs r⟩
  | .lst xs, v, h => by
    simp only [Rep] at h ⊢
    obtain ⟨a, vs, e, n, q, r⟩ := h
    exact ⟨a, vs, e, (Rd.move m q n).2, (Rd.move m q n).1, RepL.move m xs vs r⟩
  | .dic _, _, h => by
    simp only [Rep] at h
  | .ins c fs, v, h => by
    simp only [Rep] at h ⊢
    obtain ⟨a, dx, fvs, e, n, q, r⟩ := h
    have z : Rd H' a _ ∧ ¬ A' a := Rd.move m (.inl q) n
    refine ⟨a, dx, fvs, e, z.2, ?_, RepF.move m fs fvs r⟩
    exact m.kp a _ q (.inl n)
theorem RepL.move {K : Frag} {A A' : AS} {H H' : Hp} (m : Mv A H A' H') : ∀ (ds : List D) (vs : List V), RepL K A H ds vs → RepL K A' H' ds vs
  | [], vs, h => by
    simp only [RepL] at h ⊢
    exact h
  | d :: ds, vs, h => by
    simp only [RepL] at h ⊢
    obtain ⟨v, r, e, h1, h2⟩ := h
    exact ⟨v, r, e, Rep.move m d v h1, RepL.move m ds r h2⟩
theorem RepF.move {K : Frag} {A A' : AS} {H H' : Hp} (m : Mv A H A' H') : ∀ (ds : List (String × D)) (vs : List (Str × V)), RepF K A H ds vs → RepF K A' H' ds vs
  | [], vs, h => by
    simp only [RepF] at h ⊢
    exact h
  | (n, d) :: ds, vs, h => by
    simp only [RepF] at h ⊢
    obtain ⟨v, r, e, h1, h2⟩ := h
    exact ⟨v, r, e, Rep.move m d v h1, RepF.move m ds r h2⟩
end
theorem RepL.length {K : Frag} {A : AS} {H : Hp} : ∀ {ds : List D} {vs : List V}, RepL K A H ds vs → ds.length = vs.length
  | [], vs, h => by
    simp only [RepL] at h
    subst h
    rfl
  | d :: ds, vs, h => by
    simp only [RepL] at h
    obtain ⟨v, r, rfl, h1, h2⟩ := h
    simp [RepL.length h2]
theorem RepL.get {K : Frag} {A : AS} {H : Hp} : ∀ {ds : List D} {vs : List V} {i : Nat} {d : D}, RepL K A H ds vs → ds[i]? = some d → ∃ v, vs[i]? = some v ∧ Rep K A H d v
  | [], vs, i, d, h, e => by simp at e
  | d0 :: ds, vs, i, d, h, e => by
    simp only [RepL] at h
    obtain ⟨v, r, rfl, h1, h2⟩ := h
    cases i with
    | zero =>
      simp at e
      subst e
      exact ⟨v, rfl, h1⟩
    | succ i =>
      obtain ⟨w, q1, q2⟩ := RepL.get (i := i) h2 (by simpa using e)
      exact ⟨w, by simpa using q1, q2⟩
theorem RepL.append {K : Frag} {A : AS} {H : Hp} : ∀ {ds es : List D} {vs ws : List V}, RepL K A H ds vs → RepL K A H es ws → RepL K A H (ds ++ es) (vs ++ ws)
  | [], es, vs, ws, h, k => by
    simp only [RepL] at h
    subst h
    exact k
  | d :: ds, es, vs, ws, h, k => by
    simp only [RepL] at h
    obtain ⟨v, r, rfl, h1, h2⟩ := h
    simp only [List.cons_append, RepL]
    exact ⟨v, r ++ ws, rfl, h1, RepL.append h2 k⟩
theorem RepL.drop {K : Frag} {A : AS} {H : Hp} : ∀ {ds : List D} {vs : List V} (n : Nat), RepL K A H ds vs → RepL K A H (ds.drop n) (vs.drop n)
  | ds, vs, 0, h => h
  | [], vs, n + 1, h => by
    simp only [RepL] at h
    subst h
    simp [RepL]
  | d :: ds, vs, n + 1, h => by
    simp only [RepL] at h
    obtain ⟨v, r, rfl, h1, h2⟩ := h
    exact RepL.drop n h2
theorem RepL.take {K : Frag} {A : AS} {H : Hp} : ∀ {ds : List D} {vs : List V} (n : Nat), RepL K A H ds vs → RepL K A H (ds.take n) (vs.take n)
  | ds, vs, 0, h => by simp [RepL]
  | [], vs, n + 1, h => by
    simp only [RepL] at h
    subst h
    simp [RepL]
  | d :: ds, vs, n + 1, h => by
    simp only [RepL] at h
    obtain ⟨v, r, rfl, h1, h2⟩ := h
    simp only [List.take_succ_cons, RepL]
    exact ⟨v, _, rfl, h1, RepL.take n h2⟩
theorem RepL.set {K : Frag} {A : AS} {H : Hp} {d : D} {v : V} (hd : Rep K A H d v) : ∀ {ds : List D} {vs : List V} (n : Nat), RepL K A H ds vs → RepL K A H (ds.set n d) (vs.set n v)
  | [], vs, n, h => by
    simp only [RepL] at h
    subst h
    simp [RepL]
  | d0 :: ds, vs, 0, h => by
    simp only [RepL] at h
    obtain ⟨w, r, rfl, h1, h2⟩ := h
    simp only [List.set_cons_zero, RepL]
    exact ⟨v, r, rfl, hd, h2⟩
  | d0 :: ds, vs, n + 1, h => by
    simp only [RepL] at h
    obtain ⟨w, r, rfl, h1, h2⟩ := h
    simp only [List.set_cons_succ, RepL]
    exact ⟨w, _, rfl, h1, RepL.set hd n h2⟩
theorem RepL.one {K : Frag} {A : AS} {H : Hp} {d : D} {v : V} (h : Rep K A H d v) : RepL K A H [d] [v] := by
  simp only [RepL]
  exact ⟨v, [], rfl, h, rfl⟩
theorem RepF.look {K : Frag} {A : AS} {H : Hp} {f : String} : ∀ {fs : List (String × D)} {vs : List (Str × V)}, RepF K A H fs vs →
    match fs.lookup f with | some d => ∃ v, vs.lookup (Str.ofString f) = some v ∧ Rep K A H d v | none => vs.lookup (Str.ofString f) = none
  | [], vs, h => by
    simp only [RepF] at h
    subst h
    rfl
  | (n, d) :: fs, vs, h => by
    simp only [RepF] at h
    obtain ⟨v, r, rfl, h1, h2⟩ := h
    by_cases e : f = n
    · subst e
      simp only [List.lookup_cons, beq_self_eq_true]
      exact ⟨v, rfl, h1⟩
    · have e2 : (Str.ofString f == Str.ofString n) = false := beq_eq_false_iff_ne.mpr fun q => e (ofS_inj q)
      have e3 : (f == n) = false := beq_eq_false_iff_ne.mpr e
      simp only [List.lookup_cons, e2, e3]
      exact RepF.look h2
theorem RepF.put {K : Frag} {A : AS} {H : Hp} {f : String} {d : D} {v : V} (hd : Rep K A H d v) : ∀ {fs : List (String × D)} {vs : List (Str × V)}, RepF K A H fs vs → RepF K A H (putF f d fs) (L2.putF (Str.ofString f) v vs)
  | [], vs, h => by
    simp only [RepF] at h
    subst h
    simp only [putF, L2.putF, RepF]
    exact ⟨v, [], rfl, hd, rfl⟩
  | (n, d0) :: fs, vs, h => by
    simp only [RepF] at h
    obtain ⟨w, r, rfl, h1, h2⟩ := h
    by_cases e : n = f
    · subst e
      simp only [putF, L2.putF, if_pos, RepF]
      exact ⟨v, r, rfl, hd, h2⟩
    · have e2 : ¬ Str.ofString n = Str.ofString f := fun q => e (ofS_inj q)
      simp only [putF, L2.putF, if_neg e, if_neg e2, RepF]
      exact ⟨w, _, rfl, h1, RepF.put hd h2⟩
theorem RepF.length {K : Frag} {A : AS} {H : Hp} : ∀ {fs : List (String × D)} {vs : List (Str × V)}, RepF K A H fs vs → fs.length = vs.length
  | [], vs, h => by
    simp only [RepF] at h
    subst h
    rfl
  | (n, d) :: fs, vs, h => by
    simp only [RepF] at h
    obtain ⟨v, r, rfl, h1, h2⟩ := h
    simp [RepF.length h2]
mutual
/-- data without lists: nothing to avoid -/
theorem Rep.imm {K : Frag} {A A' : AS} {H : Hp} : ∀ (d : D) (v : V), Py.imm d = true → Rep K A H d v → Rep K A' H d v
  | .non, _, _, h => h
  | .bl _, _, _, h => h
  | .int _, _, _, h => h
  | .str _, _, _, h => h
  | .tup xs, v, i, h => by
    simp only [Rep] at h ⊢
    obtain ⟨a, vs, e, q, r⟩ := h
    exact ⟨a, vs, e, q, RepL.imm xs vs (by simpa only [Py.imm] using i) r⟩
  | .lst xs, v, i, h => by simp [Py.imm] at i
  | .dic _, _, i, h => by simp [Py.imm] at i
  | .ins c fs, v, i, h => by simp [Py.imm] at i
theorem RepL.imm {K : Frag} {A A' : AS} {H : Hp} : ∀ (ds : List D) (vs : List V), Py.imm.immL ds = true → RepL K A H ds vs → RepL K A' H ds vs
  | [], vs, _, h => by
    simp only [RepL] at h ⊢
    exact h
  | d :: ds, vs, i, h => by
    simp only [RepL] at h ⊢
    obtain ⟨v, r, e, h1, h2⟩ := h
    have i2 : Py.imm d = true ∧ Py.imm.immL ds = true := by simpa only [Py.imm.immL, Bool.and_eq_true] using i
    exact ⟨v, r, e, Rep.imm d v i2.1 h1, RepL.imm ds r i2.2 h2⟩
end

/-! ### the frame -/
/-- what a name's own object at a holds -/
def OwnAt (K : Frag) (A : AS) (H : Hp) (a : Addr) : D → Prop
  | .lst ds => ∃ vs, H a = some (.lst vs) ∧ RepL K A H ds vs
  | .ins c fs => ∃ dx fvs, H a = some (.ins (ca K c) dx fvs) ∧ RepF K A H fs fvs
  | _ => False
theorem OwnAt.move {K : Frag} {A A' : AS} {H H' : Hp} {a : Addr} {d : D} (m : Mv A H A' H') (k : H' a = H a) (h : OwnAt K A H a d) : OwnAt K A' H' a d := by
  cases d with
  | lst ds =>
    obtain ⟨vs, e, r⟩ := h
    exact ⟨vs, k.trans e, RepL.move m _ _ r⟩
  | ins c fs =>
    obtain ⟨dx, fvs, e, r⟩ := h
    exact ⟨dx, fvs, k.trans e, RepF.move m _ _ r⟩
  | _ => exact h
abbrev OW := Nat → Option Addr
def AO (A : AS) (O : OW) : AS := fun a => A a ∨ ∃ i, O i = some a
/-- the heap at the entry; the object that slot 0 owns throughout (an __init__'s self) -/
structure Base where
  hp : Hp
  px : Option Addr
/-- what is known of a caught error: the slot of its name, where it stands, where its dict stands, what that holds -/
structure Xh where
  i : Nat
  a : Addr
  da : Addr
  fs : List (String × D)
/-- which names own; in an except suite: the caught error -/
structure Ow where
  f : Nat → Bool
  x : Option Xh
instance : CoeFun Ow (fun _ => Nat → Bool) := ⟨Ow.f⟩
@[reducible] def Ow.off (o : Ow) : Ow := ⟨fun i => match o.x with | some q => i == q.i | none => false, o.x⟩
structure XAt (K : Frag) (A : AS) (H : Hp) (σ : L2.St) (e : Env) (f : Nat → Bool) (q : Xh) : Prop where
  own : f q.i = true
  slot : σ[q.i]? = some (some (.ref q.a))
  no : ∀ d, e[q.i]? ≠ some (some d)
  xd : ∃ fvs, H q.da = some (.xd fvs) ∧ RepF K A H q.fs fvs
def XFact (K : Frag) (A : AS) (H : Hp) (σ : L2.St) (e : Env) (o : Ow) : Prop := ∀ q, o.x = some q → XAt K A H σ e o.f q
theorem XFact.none {K : Frag} {A : AS} {H : Hp} {σ : L2.St} {e : Env} {o : Ow} (h : o.x = none) : XFact K A H σ e o := fun q z => by
  rw [h] at z
  cases z
theorem XFact.move {K : Frag} {A A' : AS} {H H' : Hp} {σ σ' : L2.St} {e e' : Env} {o : Ow} (m : Mv A H A' H') (k : ∀ da fvs, H da = some (.xd fvs) → H' da = some (.xd fvs)) (s : ∀ i, o i = true → (∀ d, e[i]? ≠ some (some d)) → σ'[i]? = σ[i]? ∧ ∀ d, e'[i]? ≠ some (some d))
    (h : XFact K A H σ e o) : XFact K A' H' σ' e' o := fun q hq => by
  obtain ⟨h1, h2, h3, fvs, h4, h5⟩ := h q hq
  obtain ⟨s1, s2⟩ := s q.i h1 h3
  exact ⟨h1, s1.trans h2, s2, fvs, k _ _ h4, RepF.move m _ _ h5⟩
theorem XFact.heap {K : Frag} {A A' : AS} {H H' : Hp} {σ : L2.St} {e : Env} {o : Ow} (m : Mv A H A' H') (k : ∀ da fvs, H da = some (.xd fvs) → H' da = some (.xd fvs)) (h : XFact K A H σ e o) : XFact K A' H' σ e o := h.move m k fun i _ n => ⟨rfl, n⟩
/-- the frame's slots hold these data; ow: the names that own what they hold; H0: the heap at the entry -/
structure ER (K : Frag) (A : AS) (H0 : Base) (ow : Ow) (O : OW) (σ : L2.St) (H : Hp) (e : Env) : Prop where
  len : σ.length = e.length
  a0 : ∀ a, A a → H a ≠ none
  same : Same H0.hp H
  vals : ∀ i d, e[i]? = some (some d) → ow i = false → ∃ v, σ[i]? = some (some v) ∧ Rep K (AO A O) H d v
  owns : ∀ i d, e[i]? = some (some d) → ow i = true → ∃ a, O i = some a ∧ σ[i]? = some (some (.ref a)) ∧ OwnAt K (AO A O) H a d
  fresh : ∀ i a, O i = some a → H0.hp a = none ∧ H a ≠ none ∧ ¬ A a
  inj : ∀ i j a, O i = some a → O j = some a → i = j
  pin : ∀ a, H0.px = some a → O 0 = some a
  exq : XFact K (AO A O) H σ e ow
section
variable {K : Frag} {A : AS} {H0 : Base} {ow : Ow} {O : OW} {σ : L2.St} {H H' : Hp} {e : Env}
theorem ne_none {H H' : Hp} {a : Addr} (s : Same H H') (h : H a ≠ none) : H' a ≠ none := by
  cases q : H a with
  | none => exact absurd q h
  | some o =>
    rw [s a o q]
    exact fun z => nomatch z
theorem ER.there (R : ER K A H0 ow O σ H e) : ∀ a, AO A O a → H a ≠ none := fun a h => by
  rcases h with h | ⟨i, h⟩
  · exact R.a0 a h
  · exact (R.fresh i a h).2.1
theorem ER.to (R : ER K A H0 ow O σ H e) (s : Same H H') : ER K A H0 ow O σ H' e :=
  ⟨R.len, fun a h => ne_none s (R.a0 a h), R.same.trans s, fun i d h1 h2 => let ⟨v, q, r⟩ := R.vals i d h1 h2; ⟨v, q, Rep.move (Mv.same s) d v r⟩,
    fun i d h1 h2 => let ⟨a, q, q2, r⟩ := R.owns i d h1 h2; ⟨a, q, q2, r.move (Mv.same s) (by
      cases z : H a with
      | none => exact absurd z (R.fresh i a q).2.1
      | some o => exact s a o z)⟩,
    fun i a h => ⟨(R.fresh i a h).1, ne_none s (R.fresh i a h).2.1, (R.fresh i a h).2.2⟩, R.inj, R.pin, R.exq.heap (Mv.same s) fun da fvs e => s _ _ e⟩
/-- a name takes a value -/
theorem ER.set (R : ER K A H0 ow O σ H e) {i : Nat} {d : D} {v : V} (hi : ow i = false) (r : Rep K (AO A O) H d v) : ER K A H0 ow O (σ.set i (some v)) H (e.set i (some d)) := by
  refine ⟨by simp [R.len], R.a0, R.same, fun j d' h1 h2 => ?_, fun j d' h1 h2 => ?_, R.fresh, R.inj, R.pin, R.exq.move Mv.refl (fun _ _ e => e) fun j hj n => ?_⟩
  rotate_right
  · have hne : i ≠ j := fun z => by
      rw [z, hj] at hi
      cases hi
    rw [List.getElem?_set_ne hne, List.getElem?_set_ne hne]
    exact ⟨rfl, n⟩
  · by_cases hj : i = j
    · subst hj
      have hl : i < e.length := by
        have := (List.getElem?_eq_some_iff.mp h1).1
        simpa using this
      rw [List.getElem?_set_self hl] at h1
      cases h1
      exact ⟨v, List.getElem?_set_self (by rw [R.len]; exact hl), r⟩
    · rw [List.getElem?_set_ne hj] at h1
      rw [List.getElem?_set_ne hj]
      exact R.vals j d' h1 h2
  · have hj : i ≠ j := fun z => by
      subst z
      rw [hi] at h2
      cases h2
    rw [List.getElem?_set_ne hj] at h1
    rw [List.getElem?_set_ne hj]
    exact R.owns j d' h1 h2
/-- names forgotten -/
theorem ER.sub {e' : Env} {σ' : L2.St} (R : ER K A H0 ow O σ H e) (hl : σ'.length = e'.length) (h : ∀ (i : Nat) (d : D), e'[i]? = some (some d) → e[i]? = some (some d) ∧ σ'[i]? = σ[i]?) (hx : ∀ q : Xh, ow.x = some q → σ'[q.i]? = σ[q.i]?) : ER K A H0 ow O σ' H e' :=
  ⟨hl, R.a0, R.same, fun i d h1 h2 => by rw [(h i d h1).2]; exact R.vals i d (h i d h1).1 h2, fun i d h1 h2 => by rw [(h i d h1).2]; exact R.owns i d (h i d h1).1 h2, R.fresh, R.inj, R.pin, fun q hq => by
    obtain ⟨h1, h2, h3, h4⟩ := R.exq q hq
    exact ⟨h1, (hx q hq).trans h2, fun d z => h3 d (h _ d z).1, h4⟩⟩
end
theorem wipe_env (vs : List Nat) (e : Env) (i : Nat) (d : D) (h : (wipe e vs)[i]? = some (some d)) : e[i]? = some (some d) ∧ i ∉ vs := by
  induction vs with
  | nil => exact ⟨h, by simp⟩
  | cons j r ih =>
    unfold wipe at h
    by_cases hj : j = i
    · subst hj
      by_cases hl : j < (wipe e r).length
      · rw [List.getElem?_set_self hl] at h
        cases h
      · rw [List.getElem?_eq_none (by simp; omega)] at h
        cases h
    · rw [List.getElem?_set_ne hj] at h
      obtain ⟨a, b⟩ := ih h
      exact ⟨a, by simp [b, Ne.symm hj]⟩
theorem wipe_len (vs : List Nat) (e : Env) : (wipe e vs).length = e.length := by
  induction vs with
  | nil => rfl
  | cons j r ih => unfold wipe; simp [ih]
theorem ER.wipe {K : Frag} {A : AS} {H0 : Base} {ow : Ow} {O : OW} {σ : L2.St} {H : Hp} {e : Env} (R : ER K A H0 ow O σ H e) (vs : List Nat) (hx : ow.x = none) : ER K A H0 ow O (L2.wipe σ vs) H (Py.wipe e vs) :=
  R.sub (by rw [L2.wipe_length, wipe_len, R.len]) (fun i d h => ⟨(wipe_env vs e i d h).1, L2.wipe_out (wipe_env vs e i d h).2⟩) fun q hq => by
    rw [hx] at hq
    cases hq

/-! ### readings -/
def Out {α : Type} (r : Res α) (good : α → Prop) (bad : String → List (String × D) → Prop) : Prop := match r with
  | .ok a => good a
  | .exc c fs => bad c fs
  | .stuck => False
theorem Out.bind {α β : Type} {r : Res α} {f : α → Res β} {good : β → Prop} {bad : String → List (String × D) → Prop} (h : Out (r >>= f) good bad) : Out r (fun a => Out (f a) good bad) bad := by
  cases r with
  | ok a => exact h
  | exc c fs => exact h
  | stuck => exact h
theorem Out.imp {α : Type} {r : Res α} {good good' : α → Prop} {bad bad' : String → List (String × D) → Prop} (h : Out r good bad) (hg : ∀ a, r = .ok a → good a → good' a) (hb : ∀ c fs, bad c fs → bad' c fs) : Out r good' bad' := by
  cases r with
  | ok a => exact hg a rfl h
  | exc c fs => exact hb c fs h
  | stuck => exact h
theorem Out.good {α : Type} {r : Res α} {good good' : α → Prop} {bad : String → List (String × D) → Prop} (h : Out r good bad) (hg : ∀ a, good a → good' a) : Out r good' bad := h.imp (fun a _ => hg a) fun _ _ x => x
/-- what an exception must show that leaves an expression -/
def badE (K : Frag) (W : WX) (A : AS) (O : OW) (σ : L2.St) (H : Hp) (c : String) (fs : List (String × D)) : Prop :=
  ∀ da H' fvs, Same H H' → H' da = some (.xd fvs) → RepF K (AO A O) H' fs fvs → W (.ref (ca K c)) (some da) σ H'
theorem badE.to {K : Frag} {W : WX} {A : AS} {O : OW} {σ : L2.St} {H H1 : Hp} (s : Same H H1) {c : String} {fs : List (String × D)} (h : badE K W A O σ H c fs) : badE K W A O σ H1 c fs := fun da H' fvs s' => h da H' fvs (s.trans s')
theorem Out.to {K : Frag} {W : WX} {A : AS} {O : OW} {σ : L2.St} {H H1 : Hp} {α : Type} {r : Res α} {good : α → Prop} (s : Same H H1) (h : Out r good (badE K W A O σ H)) : Out r good (badE K W A O σ H1) := h.imp (fun _ _ x => x) fun _ _ x => x.to s
/-- a value that may be a name's own list or object: what is within it is clean -/
def RepW (K : Frag) (A : AS) (H : Hp) : D → V → Prop
  | .lst xs, v => ∃ a vs, v = .ref a ∧ Rd H a (.lst vs) ∧ RepL K A H xs vs
  | .ins c fs, v => ∃ a dx fvs, v = .ref a ∧ H a = some (.ins (ca K c) dx fvs) ∧ RepF K A H fs fvs
  | d, v => Rep K A H d v
theorem RepW.of {K : Frag} {A : AS} {H : Hp} {d : D} {v : V} (h : Rep K A H d v) : RepW K A H d v := by
  cases d with
  | lst xs =>
    simp only [Rep] at h
    obtain ⟨a, vs, e, _, q, r⟩ := h
    exact ⟨a, vs, e, q, r⟩
  | ins c fs =>
    simp only [Rep] at h
    obtain ⟨a, dx, fvs, e, _, q, r⟩ := h
    exact ⟨a, dx, fvs, e, q, r⟩
  | _ => exact h
theorem RepW.none {K : Frag} {A : AS} {H : Hp} {d : D} {v : V} (h : RepW K A H d v) : Rep K (fun _ => False) H d v := by
  have z : Mv A H (fun _ => False) H := Mv.less fun _ x => x.elim
  cases d with
  | lst xs =>
    obtain ⟨a, vs, e, q, r⟩ := h
    simp only [Rep]
    exact ⟨a, vs, e, fun x => x, q, RepL.move z _ _ r⟩
  | ins c fs =>
    obtain ⟨a, dx, fvs, e, q, r⟩ := h
    simp only [Rep]
    exact ⟨a, dx, fvs, e, fun x => x, q, RepF.move z _ _ r⟩
  | _ => exact Rep.move z _ _ h
/-- a relation between data and values, under what is to be avoided -/
abbrev RR := AS → Hp → D → V → Prop
/-- an expression that computes m -/
def tG (R : RR) (K : Frag) (W : WX) (ow : Ow) (m : EM) : TE := fun σ H Q => ∃ A H0 O e, ER K A H0 ow O σ H e ∧
  Out (m e) (fun d => ∀ v H', Same H H' → R (AO A O) H' d v → Q v H') (badE K W A O σ H)
/-- .. clean -/
abbrev tE (K : Frag) (W : WX) (ow : Ow) (m : EM) : TE := tG (Rep K) K W ow m
/-- .. to be read only -/
abbrev tW (K : Frag) (W : WX) (ow : Ow) (m : EM) : TE := tG (RepW K) K W ow m
/-- .. a new list -/
def tF (K : Frag) (W : WX) (ow : Ow) (m : EM) : TE := fun σ H Q => ∃ A H0 O e, ER K A H0 ow O σ H e ∧
  Out (m e) (fun d => ∀ a H', H a = none → Same H H' → OwnAt K (fun b => AO A O b ∨ b = a) H' a d → Q (.ref a) H') (badE K W A O σ H)
def tT (K : Frag) (W : WX) (ow : Ow) (m : TM) : TT := fun σ H Q => ∃ A H0 O e, ER K A H0 ow O σ H e ∧
  Out (m e) (fun b => ∀ H', Same H H' → Q b H') (badE K W A O σ H)
def tA (R : RR) (K : Frag) (W : WX) (ow : Ow) (m : AM) : TA := fun σ H Q => ∃ A H0 O e, ER K A H0 ow O σ H e ∧
  Out (m e) (fun ds => ∀ vs H', Same H H' → Paired (fun v d => R (AO A O) H' d v) vs ds → Q vs H') (badE K W A O σ H)
section
variable {X : Cx} {K : Frag} {W : WX} {A : AS} {H0 : Base} {ow : Ow}
theorem PE.of {e : Expr} {t t' : TE} (h : PE X e t) (k : ∀ σ H Q, t' σ H Q → t σ H Q) : PE X e t' := ⟨fun pins s σ H Q I q => h.run pins s σ H Q I (k σ H Q q)⟩
theorem PT.of {e : Expr} {t t' : TT} (h : PT X e t) (k : ∀ σ H Q, t' σ H Q → t σ H Q) : PT X e t' := ⟨fun pins s σ H Q I q => h.run pins s σ H Q I (k σ H Q q)⟩
theorem PW.of {e : Expr} {t t' : TT} (h : PW X e t) (k : ∀ σ H Q, t' σ H Q → t σ H Q) : PW X e t' := ⟨fun wh pins s σ H Q I q => h.run wh pins s σ H Q I (k σ H Q q)⟩
theorem PA.of {e : List Expr} {t t' : TA} (h : PA X e t) (k : ∀ σ H Q, t' σ H Q → t σ H Q) : PA X e t' := ⟨fun pos pins s σ H Q I q => h.run pos pins s σ H Q I (k σ H Q q)⟩
theorem PS.of {e : Stmt} {t t' : TS} (h : PS X e t) (k : ∀ D σ H, t' D σ H → t D σ H) : PS X e t' := ⟨fun pins s σ H D I q => h.run pins s σ H D I (k D σ H q)⟩
theorem PSs.of {e : List Stmt} {t t' : TS} (h : PSs X e t) (k : ∀ D σ H, t' D σ H → t D σ H) : PSs X e t' := ⟨fun pins s σ H D I q => h.run pins s σ H D I (k D σ H q)⟩
theorem w_of {e : Expr} {m : EM} (h : PE X e (tE K W ow m)) : PE X e (tW K W ow m) := PE.of h fun σ H Q ⟨A, H0, O, en, R, q⟩ => ⟨A, H0, O, en, R, q.good fun d k v H' s r => k v H' s (RepW.of r)⟩
theorem e_of {e : Expr} {m : EM} (h : PE X e (tF K W ow m)) : PE X e (tE K W ow m) := PE.of h fun σ H Q ⟨A, H0, O, en, R, q⟩ => ⟨A, H0, O, en, R, q.good fun d k a H' n s r => by
  refine k (.ref a) H' s ?_
  have na : ¬ AO A O a := fun z => R.there a z n
  have mv : Mv (fun b => AO A O b ∨ b = a) H' (AO A O) H' := Mv.less fun b x => .inl x
  cases d with
  | lst ds =>
    obtain ⟨vs, e1, r1⟩ := r
    simp only [Rep]
    exact ⟨a, vs, rfl, na, .inl e1, RepL.move mv _ _ r1⟩
  | ins c fs =>
    obtain ⟨dx, fvs, e1, r1⟩ := r
    simp only [Rep]
    exact ⟨a, dx, fvs, rfl, na, e1, RepF.move mv _ _ r1⟩
  | _ => exact r.elim⟩
/-! names, constants -/
theorem x_var {i : Nat} {e : Expr} (h : PE X e (tVar i)) (hi : ow i = false) : PE X e (tE K W ow (var i)) := PE.of h fun σ H Q ⟨A, H0, O, en, R, q⟩ => by
  unfold var at q
  split at q
  · rename_i d hd
    obtain ⟨v, e1, r⟩ := R.vals i d hd hi
    exact ⟨v, e1, q v H (Same.refl H) r⟩
  · exact q.elim
/-- a name's own list, read -/
theorem x_own {i : Nat} {e : Expr} (h : PE X e (tVar i)) : PE X e (tW K W ow (var i)) := PE.of h fun σ H Q ⟨A, H0, O, en, R, q⟩ => by
  unfold var at q
  split at q
  · rename_i d hd
    cases hi : ow i with
    | false =>
      obtain ⟨v, e1, r⟩ := R.vals i d hd hi
      exact ⟨v, e1, q v H (Same.refl H) (RepW.of r)⟩
    | true =>
      obtain ⟨a, _, e1, r⟩ := R.owns i d hd hi
      refine ⟨.ref a, e1, q _ H (Same.refl H) ?_⟩
      cases d with
      | lst ds =>
        obtain ⟨vs, e2, r⟩ := r
        exact ⟨a, vs, rfl, .inl e2, r⟩
      | ins c fs =>
        obtain ⟨dx, fvs, e2, r⟩ := r
        exact ⟨a, dx, fvs, rfl, e2, r⟩
      | _ => exact r.elim
  · exact q.elim
/-- data that need no object -/
def flat : D → Option V
  | .non => some .non
  | .bl b => some (.bl b)
  | .int i => some (.int i)
  | .str s => some (.str (Str.ofString s))
  | _ => none
theorem flat_rep {d : D} {v : V} (h : flat d = some v) (A : AS) (H : Hp) : Rep K A H d v := by
  cases d <;> simp only [flat, Option.some.injEq] at h <;> first | exact h.symm | cases h
theorem x_cst {e : Expr} {d : D} {v : V} (h : PE X e (tC v)) (hf : flat d = some v) : PE X e (tE K W ow (cst d)) := PE.of h fun σ H Q ⟨A, H0, O, en, R, q⟩ => q v H (Same.refl H) (flat_rep hf _ _)
theorem x_int {i j pos} : PE X (.Constant (.int i) j pos) (tE K W ow (cst (.int i))) := x_cst pe_int rfl
theorem x_bl {i j pos} : PE X (.Constant (.bool i) j pos) (tE K W ow (cst (.bl i))) := x_cst pe_bl rfl
theorem x_non {j pos} : PE X (.Constant .none j pos) (tE K W ow (cst .non)) := x_cst pe_non rfl
theorem x_str {s : String} {j pos} : PE X (.Constant (.str (Str.ofString s)) j pos) (tE K W ow (cst (.str s))) := x_cst pe_str rfl
end
end Py

/-! Operators. -/
namespace Py
open PySem L2

/-! ### data of the library -/
mutual
def toPy : D → PyData
  | .non => .none
  | .bl b => .bool b
  | .int i => .int i
  | .str s => .str (Str.ofString s)
  | .tup xs => .tuple (toPyL xs)
  | .lst xs => .list (toPyL xs)
  | .dic _ => .none
  | .ins _ _ => .none
def toPyL : List D → List PyData
  | [] => []
  | d :: r => toPy d :: toPyL r
end
theorem str_len (s : String) : (Str.ofString s).length = s.length := by
  rw [Str.ofString_eq_toList]
  simp [Str.length, String.length_toList]
theorem str_ok (s : String) : PySem.PyData.strOk (Str.ofString s) = true := by
  rw [Str.ofString_eq_toList]
  simp only [PySem.PyData.strOk, List.size_toArray, List.all_toArray', List.all_map]
  refine List.all_eq_true.mpr fun c _ => ?_
  simp only [Function.comp, decide_eq_true_eq]
  rcases c.valid with h | h
  · have h2 : c.toNat < 55296 := h
    omega
  · have h2 : c.toNat < 1114112 := h.2
    omega
mutual
theorem dp_of {K : Frag} {H : Hp} : ∀ (n : Nat) (d : D) (v : V), pl n d = true → Rep K (fun _ => False) H d v → Dp K H v (toPy d) ∧ (toPy d).canLay0 = true ∧ (toPy d).depth ≤ n
  | n, .non, v, _, h => by
    simp only [Rep] at h
    subst h
    exact ⟨.non, by simp [toPy, PyData.canLay0], by simp [toPy, PyData.depth]⟩
  | n, .bl b, v, _, h => by
    simp only [Rep] at h
    subst h
    exact ⟨.bl b, by simp [toPy, PyData.canLay0], by simp [toPy, PyData.depth]⟩
  | n, .int b, v, _, h => by
    simp only [Rep] at h
    subst h
    exact ⟨.int b, by simp [toPy, PyData.canLay0], by simp [toPy, PyData.depth]⟩
  | n, .str b, v, _, h => by
    simp only [Rep] at h
    subst h
    exact ⟨.str _, by simp [toPy, PyData.canLay0, str_ok], by simp [toPy, PyData.depth]⟩
  | n + 1, .tup xs, v, p, h => by
    simp only [Rep] at h
    obtain ⟨a, vs, rfl, q, r⟩ := h
    simp only [pl] at p
    obtain ⟨h1, h2, h3⟩ := dp_ofL n xs vs p r
    refine ⟨?_, by simpa [toPy, PyData.canLay0] using h2, by simp only [toPy, PyData.depth]; omega⟩
    simp only [toPy]
    exact .tup q h1
  | n + 1, .lst xs, v, p, h => by
    simp only [Rep] at h
    obtain ⟨a, vs, rfl, _, q, r⟩ := h
    simp only [pl] at p
    obtain ⟨h1, h2, h3⟩ := dp_ofL n xs vs p r
    refine ⟨?_, by simpa [toPy, PyData.canLay0] using h2, by simp only [toPy, PyData.depth]; omega⟩
    simp only [toPy]
    exact .lst (.inl q) h1
  | 0, .tup xs, v, p, h => by simp [pl] at p
  | 0, .lst xs, v, p, h => by simp [pl] at p
  | n, .dic _, v, p, h => by cases n <;> simp [pl] at p
  | n, .ins _ _, v, p, h => by cases n <;> simp [pl] at p
theorem dp_ofL {K : Frag} {H : Hp} : ∀ (n : Nat) (ds : List D) (vs : List V), ds.all (pl n) = true → RepL K (fun _ => False) H ds vs → DpAll K H vs (toPyL ds) ∧ PyData.canLayAll0 (toPyL ds) = true ∧ PyData.depthAll (toPyL ds) ≤ n
  | n, [], vs, _, h => by
    simp only [RepL] at h
    subst h
    exact ⟨.nil, by simp [toPyL, PyData.canLayAll0], by simp [toPyL, PyData.depthAll]⟩
  | n, d :: ds, vs, p, h => by
    simp only [RepL] at h
    obtain ⟨v, r, rfl, h1, h2⟩ := h
    simp only [List.all_cons, Bool.and_eq_true] at p
    obtain ⟨a1, a2, a3⟩ := dp_of n d v p.1 h1
    obtain ⟨b1, b2, b3⟩ := dp_ofL n ds r p.2 h2
    refine ⟨.cons a1 b1, by simp [toPyL, PyData.canLayAll0, a2, b2], by simp only [toPyL, PyData.depthAll]; omega⟩
end
mutual
theorem eqv_py : ∀ (d e : D) (n m : Nat), pl n d = true → pl m e = true → PyData.eqv (toPy d) (toPy e) = eqv d e
  | .non, e, n, m, _, q => by cases e <;> first | (cases m <;> simp [pl] at q; done) | simp [toPy, PyData.eqv, eqv]
  | .bl b, e, n, m, _, _ => by cases e <;> simp [toPy, PyData.eqv, eqv, b2i]
  | .int b, e, n, m, _, _ => by cases e <;> simp [toPy, PyData.eqv, eqv, b2i]
  | .str b, e, n, m, _, _ => by
    cases e with
    | str c =>
      simp only [toPy, PyData.eqv, eqv]
      by_cases q : b = c
      · subst q
        simp
      · rw [beq_eq_false_iff_ne.mpr q]
        exact beq_eq_false_iff_ne.mpr fun z => q (ofS_inj z)
    | _ => simp [toPy, PyData.eqv, eqv]
  | .tup xs, e, n, m, p, q => by
    cases e with
    | tup ys =>
      cases n with
      | zero => simp [pl] at p
      | succ n =>
        cases m with
        | zero => simp [pl] at q
        | succ m =>
          simp only [toPy, PyData.eqv, eqv]
          exact eqv_pyL xs ys n m (by simpa only [pl] using p) (by simpa only [pl] using q)
    | _ => simp [toPy, PyData.eqv, eqv]
  | .lst xs, e, n, m, p, q => by
    cases e with
    | lst ys =>
      cases n with
      | zero => simp [pl] at p
      | succ n =>
        cases m with
        | zero => simp [pl] at q
        | succ m =>
          simp only [toPy, PyData.eqv, eqv]
          exact eqv_pyL xs ys n m (by simpa only [pl] using p) (by simpa only [pl] using q)
    | _ => simp [toPy, PyData.eqv, eqv]
  | .dic _, e, n, m, p, _ => by cases n <;> simp [pl] at p
  | .ins _ _, e, n, m, p, _ => by cases n <;> simp [pl] at p
theorem eqv_pyL : ∀ (ds es : List D) (n m : Nat), ds.all (pl n) = true → es.all (pl m) = true → PyData.eqvAll (toPyL ds) (toPyL es) = eqv.eqvL ds es
  | [], [], _, _, _, _ => by simp [toPyL, PyData.eqvAll, eqv.eqvL]
  | [], _ :: _, _, _, _, _ => by simp [toPyL, PyData.eqvAll, eqv.eqvL]
  | _ :: _, [], _, _, _, _ => by simp [toPyL, PyData.eqvAll, eqv.eqvL]
  | d :: ds, e :: es, n, m, p, q => by
    simp only [List.all_cons, Bool.and_eq_true] at p q
    simp only [toPyL, PyData.eqvAll, eqv.eqvL]
    rw [eqv_py d e n m p.1 q.1, eqv_pyL ds es n m p.2 q.2]
end

/-! ### two operands, one operand -/
def r2 (K : Frag) (f : D → D → Res D) : R2 := fun x y H Q => ∃ A d1 d2 d, RepW K A H d1 x ∧ RepW K A H d2 y ∧ (∀ a, A a → H a ≠ none) ∧ f d1 d2 = .ok d ∧ ∀ v H', Same H H' → Rep K A H' d v → Q v H'
def r1 (K : Frag) (f : D → Res D) : V → Hp → VK → Prop := fun x H Q => ∃ A d1 d, RepW K A H d1 x ∧ (∀ a, A a → H a ≠ none) ∧ f d1 = .ok d ∧ ∀ v H', Same H H' → Rep K A H' d v → Q v H'
def NoEx2 (f : D → D → Res D) : Prop := ∀ x y c fs, f x y ≠ .exc c fs
def NoEx1 (f : D → Res D) : Prop := ∀ x c fs, f x ≠ .exc c fs
theorem r2_of {K : Frag} {A : AS} {W : WX} {O : OW} {σ : L2.St} {H0 : Base} {f : D → D → Res D} (hf : NoEx2 f) {x y : V} {H : Hp} {Q : VK} {d1 d2 : D} (h1 : RepW K A H d1 x) (h2 : RepW K A H d2 y) (ha : ∀ a, A a → H a ≠ none)
    {bad : String → List (String × D) → Prop} (h : Out (f d1 d2) (fun d => ∀ v H', Same H H' → Rep K A H' d v → Q v H') bad) : r2 K f x y H Q := by
  cases e : f d1 d2 with
  | ok d =>
    rw [e] at h
    exact ⟨A, d1, d2, d, h1, h2, ha, e, h⟩
  | exc c fs => exact absurd e (hf _ _ _ _)
  | stuck =>
    rw [e] at h
    exact h.elim
theorem RepW.move {K : Frag} {A : AS} {H H' : Hp} (s : Same H H') {d : D} {v : V} (h : RepW K A H d v) : RepW K A H' d v := by
  cases d with
  | lst xs =>
    obtain ⟨a, vs, e, q, r⟩ := h
    refine ⟨a, vs, e, ?_, RepL.move (Mv.same s) _ _ r⟩
    rcases q with q | ⟨o, q⟩
    · exact .inl (s _ _ q)
    · exact .inr ⟨o, s _ _ q⟩
  | ins c fs =>
    obtain ⟨a, dx, fvs, e, q, r⟩ := h
    exact ⟨a, dx, fvs, e, s _ _ q, RepF.move (Mv.same s) _ _ r⟩
  | _ => exact Rep.move (Mv.same s) _ _ h
section
variable {X : Cx} {W : WX} {A : AS} {H0 : Base} {ow : Ow} {a b : Expr} {ma mb : EM} {pos : Pos}
theorem two_of {f : D → D → Res D} (hf : NoEx2 f) {σ : L2.St} {H : Hp} {Q : VK} (h : tE X.K W ow (bin f ma mb) σ H Q) : tOp (r2 X.K f) (tW X.K W ow ma) (tW X.K W ow mb) σ H Q := by
  obtain ⟨A, H0, O, en, R, q⟩ := h
  refine ⟨A, H0, O, en, R, (Out.bind q).good fun d1 q1 v1 H1 s1 r1 => ?_⟩
  refine ⟨A, H0, O, en, R.to s1, ((Out.bind q1).to s1).good fun d2 q2 v2 H2 s2 r2 => ?_⟩
  have R2 := (R.to s1).to s2
  exact r2_of (W := W) (O := O) (σ := σ) (H0 := H0) hf (r1.move s2) r2 R2.there (q2.good fun d k v H' s' r => k v H' ((s1.trans s2).trans s') r)
theorem one_of {f : D → Res D} (hf : NoEx1 f) {σ : L2.St} {H : Hp} {Q : VK} (h : tE X.K W ow (un f ma) σ H Q) : tUn (r1 X.K f) (tW X.K W ow ma) σ H Q := by
  obtain ⟨A, H0, O, en, R, q⟩ := h
  refine ⟨A, H0, O, en, R, (Out.bind q).good fun d1 q1 v1 H1 s1 r1 => ?_⟩
  have R2 := R.to s1
  cases e : f d1 with
  | ok d =>
    rw [e] at q1
    exact ⟨_, d1, d, r1, R2.there, e, fun v H' s' r => q1 v H' (s1.trans s') r⟩
  | exc c fs => exact absurd e (hf _ _ _)
  | stuck =>
    rw [e] at q1
    exact q1.elim
theorem x_bin {op : Operator} {f : D → D → Res D} (ho : OpR X (binaryOp op) (r2 X.K f)) (hf : NoEx2 f) (ha : PE X a (tW X.K W ow ma)) (hb : PE X b (tW X.K W ow mb)) : PE X (.BinOp a op b pos) (tE X.K W ow (bin f ma mb)) :=
  PE.of (pe_op ho ha hb) fun _ _ _ h => two_of hf h
theorem x_un {op : UnaryOp} {f : D → Res D} (ho : UnR X (unaryOp op) (r1 X.K f)) (hf : NoEx1 f) (ha : PE X a (tW X.K W ow ma)) : PE X (.UnaryOp op a pos) (tE X.K W ow (un f ma)) :=
  PE.of (pe_un ho ha) fun _ _ _ h => one_of hf h
theorem x_cmp {op : CmpOp} {f : D → D → Res D} (ho : OpR X (compareOp op) (r2 X.K f)) (hf : NoEx2 f) (ha : PE X a (tW X.K W ow ma)) (hb : PE X b (tW X.K W ow mb)) (hm : behindInMarks op b = false) : PE X (.Compare a [op] [b] pos) (tE X.K W ow (bin f ma mb)) :=
  PE.of (pe_cmpR ho ha hb hm) fun _ _ _ h => two_of hf h
/-! ### ints -/
theorem rep_int {K : Frag} {A : AS} {H : Hp} {i : Int} {v : V} (h : RepW K A H (.int i) v) : v = .int i := h
theorem imp2 {g : Value → Value → Sem Value} {r r' : R2} (h : OpR X g r) (k : ∀ x y H Q, r' x y H Q → r x y H Q) : OpR X g r' := fun pins s σ H x y v u Q I rx ry q => h pins s σ H x y v u Q I rx ry (k x y H Q q)
theorem imp1 {g : Value → Sem Value} {r r' : V → Hp → VK → Prop} (h : UnR X g r) (k : ∀ x H Q, r' x H Q → r x H Q) : UnR X g r' := fun pins s σ H x v Q I rx q => h pins s σ H x v Q I rx (k x H Q q)
theorem int_op {g : Value → Value → Sem Value} {f : D → D → Res D} {C : Int → Int → Prop} {z : Int → Int → V} {zd : Int → Int → D} (h : OpR X g (rI C z))
    (hz : ∀ i j, flat (zd i j) = some (z i j)) (hf : ∀ d1 d2 d, f d1 d2 = .ok d → ∃ i j, d1 = .int i ∧ d2 = .int j ∧ C i j ∧ d = zd i j) : OpR X g (r2 X.K f) := imp2 h fun x y H Q ⟨A, d1, d2, d, h1, h2, _, e, k⟩ => by
  obtain ⟨i, j, rfl, rfl, c, rfl⟩ := hf d1 d2 d e
  exact ⟨i, j, rep_int h1, rep_int h2, c, k _ H (Same.refl H) (flat_rep (hz i j) _ _)⟩
theorem rI_of {g : Value → Value → Sem Value} {z : Int → Int → V} (h : OpR X g (rI0 z)) : OpR X g (rI (fun _ _ => True) z) := imp2 h fun x y H Q ⟨i, j, e1, e2, _, q⟩ => ⟨i, j, e1, e2, q⟩
theorem y_sub : OpR X (binaryOp .Sub) (r2 X.K osub) := int_op (rI_of op_sub) (zd := fun i j => .int (i - j)) (fun _ _ => rfl) fun d1 d2 d e => by
  cases d1 <;> cases d2 <;> simp only [osub, Res.ok.injEq, reduceCtorEq] at e
  exact ⟨_, _, rfl, rfl, trivial, e.symm⟩
theorem y_mul : OpR X (binaryOp .Mult) (r2 X.K omul) := int_op op_mul (zd := fun i j => .int (i * j)) (fun _ _ => rfl) fun d1 d2 d e => by
  cases d1 <;> cases d2 <;> simp only [omul, reduceCtorEq] at e
  split at e
  · rename_i c
    refine ⟨_, _, rfl, rfl, ?_, ?_⟩
    · simp only [B64] at c
      unfold CMul
      have e64 : (2 : Int) ^ 64 = 18446744073709551616 := by decide
      rw [e64]
      omega
    · simp only [Res.ok.injEq] at e
      exact e.symm
  · cases e
theorem y_fdiv : OpR X (binaryOp .FloorDiv) (r2 X.K ofdiv) := int_op op_fdiv (zd := fun i j => .int (i / j)) (fun _ _ => rfl) fun d1 d2 d e => by
  cases d1 <;> cases d2 <;> simp only [ofdiv, reduceCtorEq] at e
  split at e
  · rename_i c
    simp only [Res.ok.injEq] at e
    exact ⟨_, _, rfl, rfl, c, e.symm⟩
  · cases e
theorem y_mod : OpR X (binaryOp .Mod) (r2 X.K omod) := int_op op_mod (zd := fun i j => .int (i % j)) (fun _ _ => rfl) fun d1 d2 d e => by
  cases d1 <;> cases d2 <;> simp only [omod, reduceCtorEq] at e
  split at e
  · rename_i c
    simp only [Res.ok.injEq] at e
    exact ⟨_, _, rfl, rfl, c, e.symm⟩
  · cases e
theorem y_pow : OpR X (binaryOp .Pow) (r2 X.K opow) := int_op op_pow (zd := fun i j => .int (i ^ j.toNat)) (fun _ _ => rfl) fun d1 d2 d e => by
  cases d1 <;> cases d2 <;> simp only [opow, reduceCtorEq] at e
  split at e
  · rename_i c
    simp only [Res.ok.injEq] at e
    refine ⟨_, _, rfl, rfl, ?_, e.symm⟩
    have e64 : (2 : Nat) ^ 64 = 18446744073709551616 := by decide
    unfold CPow
    rw [e64]
    exact c
  · cases e
theorem y_shl : OpR X (binaryOp .LShift) (r2 X.K oshl) := int_op op_shlW (zd := fun i j => .int (i * 2 ^ j.toNat)) (fun _ _ => rfl) fun d1 d2 d e => by
  cases d1 <;> cases d2 <;> simp only [oshl, reduceCtorEq] at e
  split at e
  · rename_i c
    simp only [Res.ok.injEq] at e
    refine ⟨_, _, rfl, rfl, ?_, e.symm⟩
    have e64 : (2 : Int) ^ 27 = 134217728 := by decide
    unfold CShl
    rw [e64]
    exact c
  · cases e
theorem y_shr : OpR X (binaryOp .RShift) (r2 X.K oshr) := int_op op_shr (zd := fun i j => .int (i / 2 ^ j.toNat)) (fun _ _ => rfl) fun d1 d2 d e => by
  cases d1 <;> cases d2 <;> simp only [oshr, reduceCtorEq] at e
  split at e
  · rename_i c
    simp only [Res.ok.injEq] at e
    exact ⟨_, _, rfl, rfl, c, e.symm⟩
  · cases e
theorem y_and : OpR X (binaryOp .BitAnd) (r2 X.K oand) := int_op (rI_of op_and) (zd := fun i j => .int (Builtin.bitAnd i j)) (fun _ _ => rfl) fun d1 d2 d e => by
  cases d1 <;> cases d2 <;> simp only [oand, Res.ok.injEq, reduceCtorEq] at e
  exact ⟨_, _, rfl, rfl, trivial, e.symm⟩
theorem y_or : OpR X (binaryOp .BitOr) (r2 X.K oor) := int_op (rI_of op_or) (zd := fun i j => .int (Builtin.bitOr i j)) (fun _ _ => rfl) fun d1 d2 d e => by
  cases d1 <;> cases d2 <;> simp only [oor, Res.ok.injEq, reduceCtorEq] at e
  exact ⟨_, _, rfl, rfl, trivial, e.symm⟩
theorem y_xor : OpR X (binaryOp .BitXor) (r2 X.K oxor) := int_op (rI_of op_xor) (zd := fun i j => .int (Builtin.bitXor i j)) (fun _ _ => rfl) fun d1 d2 d e => by
  cases d1 <;> cases d2 <;> simp only [oxor, Res.ok.injEq, reduceCtorEq] at e
  exact ⟨_, _, rfl, rfl, trivial, e.symm⟩
theorem y_lt : OpR X (compareOp .Lt) (r2 X.K olt) := int_op (rI_of op_lt) (zd := fun i j => .bl (decide (i < j))) (fun _ _ => rfl) fun d1 d2 d e => by
  cases d1 <;> cases d2 <;> simp only [olt, Res.ok.injEq, reduceCtorEq] at e
  exact ⟨_, _, rfl, rfl, trivial, e.symm⟩
theorem y_le : OpR X (compareOp .LtE) (r2 X.K ole) := int_op (rI_of op_le) (zd := fun i j => .bl (decide (i ≤ j))) (fun _ _ => rfl) fun d1 d2 d e => by
  cases d1 <;> cases d2 <;> simp only [ole, Res.ok.injEq, reduceCtorEq] at e
  exact ⟨_, _, rfl, rfl, trivial, e.symm⟩
theorem y_gt : OpR X (compareOp .Gt) (r2 X.K ogt) := int_op (rI_of op_gt) (zd := fun i j => .bl (decide (j < i))) (fun _ _ => rfl) fun d1 d2 d e => by
  cases d1 <;> cases d2 <;> simp only [ogt, Res.ok.injEq, reduceCtorEq] at e
  exact ⟨_, _, rfl, rfl, trivial, e.symm⟩
theorem y_ge : OpR X (compareOp .GtE) (r2 X.K oge) := int_op (rI_of op_ge) (zd := fun i j => .bl (decide (j ≤ i))) (fun _ _ => rfl) fun d1 d2 d e => by
  cases d1 <;> cases d2 <;> simp only [oge, Res.ok.injEq, reduceCtorEq] at e
  exact ⟨_, _, rfl, rfl, trivial, e.symm⟩
theorem y_neg : UnR X (unaryOp .USub) (r1 X.K oneg) := imp1 un_neg fun x H Q ⟨A, d1, d, h1, _, e, k⟩ => by
  cases d1 <;> simp only [oneg, Res.ok.injEq, reduceCtorEq] at e
  subst e
  exact ⟨_, rep_int h1, k _ H (Same.refl H) (flat_rep rfl _ _)⟩
theorem y_inv : UnR X (unaryOp .Invert) (r1 X.K oinv) := imp1 un_inv fun x H Q ⟨A, d1, d, h1, _, e, k⟩ => by
  cases d1 <;> simp only [oinv, Res.ok.injEq, reduceCtorEq] at e
  subst e
  exact ⟨_, rep_int h1, k _ H (Same.refl H) (flat_rep rfl _ _)⟩
/-! ### == and in -/
theorem y_eq (hu : X.A.units + 64 < cLine) : OpR X (compareOp .Eq) (r2 X.K oeq) := imp2 (op_eqD hu) fun x y H Q ⟨A, d1, d2, d, h1, h2, _, e, k⟩ => by
  unfold oeq at e
  split at e
  · rename_i c
    rw [Bool.and_eq_true] at c
    simp only [Res.ok.injEq] at e
    subst e
    obtain ⟨a1, a2, a3⟩ := dp_of 64 d1 x c.1 h1.none
    obtain ⟨b1, b2, b3⟩ := dp_of 64 d2 y c.2 h2.none
    refine ⟨_, _, a1, b1, ?_, ?_, ?_⟩
    · unfold SeqAt.shaped
      rw [a2, decide_eq_true a3]
      rfl
    · unfold SeqAt.shaped
      rw [b2, decide_eq_true b3]
      rfl
    · rw [eqv_py d1 d2 64 64 c.1 c.2]
      exact k _ H (Same.refl H) (flat_rep rfl _ _)
  · cases e
theorem y_ne (hu : X.A.units + 64 < cLine) : OpR X (compareOp .NotEq) (r2 X.K one) := imp2 (op_neD hu) fun x y H Q ⟨A, d1, d2, d, h1, h2, _, e, k⟩ => by
  unfold one at e
  split at e
  · rename_i c
    rw [Bool.and_eq_true] at c
    simp only [Res.ok.injEq] at e
    subst e
    obtain ⟨a1, a2, a3⟩ := dp_of 64 d1 x c.1 h1.none
    obtain ⟨b1, b2, b3⟩ := dp_of 64 d2 y c.2 h2.none
    refine ⟨_, _, a1, b1, ?_, ?_, ?_⟩
    · unfold SeqAt.shaped
      rw [a2, decide_eq_true a3]
      rfl
    · unfold SeqAt.shaped
      rw [b2, decide_eq_true b3]
      rfl
    · rw [eqv_py d1 d2 64 64 c.1 c.2]
      exact k _ H (Same.refl H) (flat_rep rfl _ _)
  · cases e
theorem flat_v {K : Frag} {A : AS} {H : Hp} {d : D} {v : V} (f : flatD d = true) (h : Rep K A H d v) : flatV v = true ∧ ∀ {e : D} {w : V}, flatD e = true → Rep K A H e w → eqV v w = eqv d e := by
  cases d <;> simp only [flatD, reduceCtorEq] at f <;> simp only [Rep] at h <;> subst h <;> refine ⟨rfl, ?_⟩ <;> intro e w fe he <;> cases e <;> simp only [flatD, reduceCtorEq] at fe <;> simp only [Rep] at he <;> subst he <;> simp only [eqV, eqv, b2i]
  rename_i b c
  by_cases q : b = c
  · subst q
    simp
  · rw [beq_eq_false_iff_ne.mpr q]
    exact beq_eq_false_iff_ne.mpr fun z => q (ofS_inj z)
theorem flat_all {K : Frag} {A : AS} {H : Hp} {x : D} {w : V} (fx : flatD x = true) (hx : Rep K A H x w) : ∀ {ds : List D} {vs : List V}, ds.all flatD = true → RepL K A H ds vs → vs.all flatV = true ∧ inV w vs = mem x ds
  | [], vs, _, h => by
    simp only [RepL] at h
    subst h
    exact ⟨rfl, rfl⟩
  | d :: ds, vs, f, h => by
    simp only [RepL] at h
    obtain ⟨v, r, rfl, h1, h2⟩ := h
    simp only [List.all_cons, Bool.and_eq_true] at f
    obtain ⟨a1, a2⟩ := flat_v f.1 h1
    obtain ⟨b1, b2⟩ := flat_all fx hx f.2 h2
    refine ⟨by simp only [List.all_cons, a1, b1, Bool.and_self], ?_⟩
    unfold inV at b2 ⊢
    simp only [List.any_cons, mem, a2 fx hx, b2]
theorem flatW {K : Frag} {A : AS} {H : Hp} {d : D} {v : V} (f : flatD d = true) (h : RepW K A H d v) : Rep K A H d v := by
  cases d <;> simp only [flatD, reduceCtorEq] at f <;> exact h
theorem in_of {K : Frag} {neg : Bool} {f : D → D → Res D} (hf : ∀ x y d, f x y = .ok d → ∃ ys, (y = .lst ys ∨ y = .tup ys) ∧ flatD x = true ∧ ys.all flatD = true ∧ d = .bl (if neg then !mem x ys else mem x ys)) :
    ∀ x y H Q, r2 K f x y H Q → rIn K neg x y H Q := fun x y H Q ⟨A, d1, d2, d, h1, h2, _, e, k⟩ => by
  obtain ⟨ys, hy, fx, fy, rfl⟩ := hf d1 d2 d e
  have g1 := flatW fx h1
  obtain ⟨a, vs, rfl, hq, r⟩ : ∃ a vs, y = .ref a ∧ (SqL K H a vs ∨ SqT K H a vs) ∧ RepL K A H ys vs := by
    rcases hy with rfl | rfl
    · obtain ⟨a, vs, e, q, r⟩ := h2
      exact ⟨a, vs, e, .inl (.inl q), r⟩
    · obtain ⟨a, vs, e, q, r⟩ := (by simpa only [RepW, Rep] using h2 : ∃ a vs, y = .ref a ∧ SqT K H a vs ∧ RepL K A H ys vs)
      exact ⟨a, vs, e, .inr q, r⟩
  obtain ⟨b1, b2⟩ := flat_all fx g1 fy r
  refine ⟨a, vs, rfl, hq, (flat_v fx g1).1, b1, ?_⟩
  rw [b2]
  exact k _ H (Same.refl H) (flat_rep rfl _ _)
theorem y_in : OpR X (compareOp .In) (r2 X.K oin) := imp2 op_in_seq (in_of fun x y d e => by
  cases y with
  | tup xs =>
    simp only [oin] at e
    split at e
    · rename_i c
      rw [Bool.and_eq_true] at c
      simp only [Res.ok.injEq] at e
      exact ⟨xs, .inr rfl, c.1, c.2, e.symm⟩
    · cases e
  | lst xs =>
    simp only [oin] at e
    split at e
    · rename_i c
      rw [Bool.and_eq_true] at c
      simp only [Res.ok.injEq] at e
      exact ⟨xs, .inl rfl, c.1, c.2, e.symm⟩
    · cases e
  | _ => simp [oin] at e)
theorem y_notin : OpR X (compareOp .NotIn) (r2 X.K onotin) := imp2 op_notIn_seq (in_of fun x y d e => by
  cases y with
  | tup xs =>
    simp only [onotin] at e
    split at e
    · rename_i c
      rw [Bool.and_eq_true] at c
      simp only [Res.ok.injEq] at e
      exact ⟨xs, .inr rfl, c.1, c.2, e.symm⟩
    · cases e
  | lst xs =>
    simp only [onotin] at e
    split at e
    · rename_i c
      rw [Bool.and_eq_true] at c
      simp only [Res.ok.injEq] at e
      exact ⟨xs, .inl rfl, c.1, c.2, e.symm⟩
    · cases e
  | _ => simp [onotin] at e)
/-! ### + -/
theorem RepL.empty {K : Frag} {A : AS} {H : Hp} {ds : List D} {vs : List V} (h : RepL K A H ds vs) : ds = [] ↔ vs = [] := by
  have := h.length
  constructor
  · intro e
    subst e
    exact List.eq_nil_of_length_eq_zero this.symm
  · intro e
    subst e
    exact List.eq_nil_of_length_eq_zero this
/-- a new object is clean -/
theorem new_same {H : Hp} {p : Addr} {o : HO} (h : H p = none) : Same H (upd H p o) := fun b u e => by
  rw [upd_ne (ne_of_none e h)]
  exact e
theorem new_tup {K : Frag} {A : AS} {H : Hp} {ds : List D} {vs : List V} (r : RepL K A H ds vs) {p : Addr} (h : H p = none) : Rep K A (upd H p (.tup vs)) (.tup ds) (.ref p) := by
  simp only [Rep]
  exact ⟨p, vs, rfl, .inl (.inl upd_same), RepL.move (Mv.same (new_same h)) _ _ r⟩
theorem new_lst {K : Frag} {A : AS} {H : Hp} (ha : ∀ a, A a → H a ≠ none) {ds : List D} {vs : List V} (r : RepL K A H ds vs) {p : Addr} (h : H p = none) : Rep K A (upd H p (.lst vs)) (.lst ds) (.ref p) := by
  simp only [Rep]
  exact ⟨p, vs, rfl, fun z => ha p z h, .inl upd_same, RepL.move (Mv.same (new_same h)) _ _ r⟩
theorem str_app (a b : String) : Str.ofString a ++ Str.ofString b = Str.ofString (a ++ b) := by
  simp only [Str.ofString_eq_toList]
  show Str.append _ _ = _
  simp [Str.append]
theorem lst_at {pins : List (Addr × Obj)} {σ : L2.St} {H : Hp} {s : Shared} (I : Inv X pins σ H s) {a : Addr} {vs : List V} (h : Rd H a (.lst vs)) :
    vs.length ≤ sizeLine ∧ ∃ (its : List Value) (n : Nat), Vals vs its ∧ s.heap.get? a = some { cls := .type "list", data := .seq its.toArray n } := h.ok I.hok
theorem sz_line : SZ = sizeLine := rfl
theorem y_add : OpR X (binaryOp .Add) (r2 X.K oadd) := by
  intro pins s σ H x y v u Q I rx ry ⟨A, d1, d2, d, h1, h2, ha, e, k⟩
  cases d1 with
  | int i =>
    cases d2 <;> simp only [oadd, Res.ok.injEq, reduceCtorEq] at e
    subst e
    exact op_add pins s σ H x y v u Q I rx ry ⟨_, _, rep_int h1, rep_int h2, k _ H (Same.refl H) (flat_rep rfl _ _)⟩
  | str i =>
    cases d2 <;> simp only [oadd, Res.ok.injEq, reduceCtorEq] at e
    split at e
    · rename_i j c
      simp only [Res.ok.injEq] at e
      subst e
      refine op_add_str pins s σ H x y v u Q I rx ry ⟨_, _, h1, h2, by rw [str_len, str_len]; exact c, ?_⟩
      rw [str_app]
      exact k _ H (Same.refl H) (flat_rep rfl _ _)
    · cases e
  | tup xs =>
    cases d2 <;> simp only [oadd, Res.ok.injEq, reduceCtorEq] at e
    rename_i ys
    split at e
    · rename_i c
      simp only [Res.ok.injEq] at e
      subst e
      obtain ⟨a, vs, rfl, q1, p1⟩ := (by simpa only [RepW, Rep] using h1 : ∃ a vs, x = .ref a ∧ SqT X.K H a vs ∧ RepL X.K A H xs vs)
      obtain ⟨b, ws, rfl, q2, p2⟩ := (by simpa only [RepW, Rep] using h2 : ∃ a vs, y = .ref a ∧ SqT X.K H a vs ∧ RepL X.K A H ys vs)
      refine op_catA pins s σ H _ _ v u Q I rx ry ⟨a, b, vs, ws, rfl, rfl, q1, q2, by rw [← p1.length, ← p2.length]; exact c, fun z => ?_, fun _ z => ?_, fun _ _ p hp => ?_⟩
      · have z1 := p1.empty.mpr z
        subst z1
        exact k _ H (Same.refl H) h2
      · have z1 := p2.empty.mpr z
        subst z1
        rw [List.append_nil] at k
        exact k _ H (Same.refl H) h1
      · exact k _ _ (new_same hp) (new_tup (p1.append p2) hp)
    · cases e
  | lst xs =>
    cases d2 <;> simp only [oadd, Res.ok.injEq, reduceCtorEq] at e
    rename_i ys
    split at e
    · rename_i c
      simp only [Res.ok.injEq] at e
      subst e
      obtain ⟨a, vs, rfl, q1, p1⟩ := h1
      obtain ⟨b, ws, rfl, q2, p2⟩ := h2
      cases rx
      cases ry
      obtain ⟨z1, its, n, rr1, e1⟩ := lst_at I q1
      obtain ⟨z2, its2, n2, rr2, e2⟩ := lst_at I q2
      have hl1 := rr1.length
      have hl2 := rr2.length
      have hl3 := p1.length
      have hl4 := p2.length
      have hsz : SZ = sizeLine := rfl
      refine PySem.P.add_list e1 e2 ?_ (by rw [List.size_toArray, List.size_toArray]; omega)
      have ea : its.toArray ++ its2.toArray = (its ++ its2).toArray := by simp
      rw [ea]
      exact ⟨.ref _, _, I.lnew (t' := s.toks) (rr1.append rr2) (by rw [List.length_append]; omega), rfl, k _ _ (new_same I.fresh) (new_lst ha (p1.append p2) I.fresh)⟩
    · cases e
  | _ => simp [oadd] at e
end
theorem n_add : NoEx2 oadd := fun x y c fs => by
  cases x <;> cases y <;> simp only [oadd] <;> first | (split <;> exact fun z => nomatch z) | exact fun z => nomatch z
theorem n_sub : NoEx2 osub := fun x y c fs => by cases x <;> cases y <;> exact fun z => nomatch z
theorem n_mul : NoEx2 omul := fun x y c fs => by
  cases x <;> cases y <;> simp only [omul] <;> first | (split <;> exact fun z => nomatch z) | exact fun z => nomatch z
theorem n_fdiv : NoEx2 ofdiv := fun x y c fs => by
  cases x <;> cases y <;> simp only [ofdiv] <;> first | (split <;> exact fun z => nomatch z) | exact fun z => nomatch z
theorem n_mod : NoEx2 omod := fun x y c fs => by
  cases x <;> cases y <;> simp only [omod] <;> first | (split <;> exact fun z => nomatch z) | exact fun z => nomatch z
theorem n_pow : NoEx2 opow := fun x y c fs => by
  cases x <;> cases y <;> simp only [opow] <;> first | (split <;> exact fun z => nomatch z) | exact fun z => nomatch z
theorem n_shl : NoEx2 oshl := fun x y c fs => by
  cases x <;> cases y <;> simp only [oshl] <;> first | (split <;> exact fun z => nomatch z) | exact fun z => nomatch z
theorem n_shr : NoEx2 oshr := fun x y c fs => by
  cases x <;> cases y <;> simp only [oshr] <;> first | (split <;> exact fun z => nomatch z) | exact fun z => nomatch z
theorem n_and : NoEx2 oand := fun x y c fs => by cases x <;> cases y <;> exact fun z => nomatch z
theorem n_or : NoEx2 oor := fun x y c fs => by cases x <;> cases y <;> exact fun z => nomatch z
theorem n_xor : NoEx2 oxor := fun x y c fs => by cases x <;> cases y <;> exact fun z => nomatch z
theorem n_lt : NoEx2 olt := fun x y c fs => by cases x <;> cases y <;> exact fun z => nomatch z
theorem n_le : NoEx2 ole := fun x y c fs => by cases x <;> cases y <;> exact fun z => nomatch z
theorem n_gt : NoEx2 ogt := fun x y c fs => by cases x <;> cases y <;> exact fun z => nomatch z
theorem n_ge : NoEx2 oge := fun x y c fs => by cases x <;> cases y <;> exact fun z => nomatch z
theorem n_neg : NoEx1 oneg := fun x c fs => by cases x <;> exact fun z => nomatch z
theorem n_inv : NoEx1 oinv := fun x c fs => by cases x <;> exact fun z => nomatch z
theorem n_eq : NoEx2 oeq := fun x y c fs => by
  unfold oeq
  split <;> exact fun z => nomatch z
theorem n_ne : NoEx2 one := fun x y c fs => by
  unfold one
  split <;> exact fun z => nomatch z
theorem n_in : NoEx2 oin := fun x y c fs => by
  cases y <;> simp only [oin] <;> first | (split <;> exact fun z => nomatch z) | exact fun z => nomatch z
theorem n_notin : NoEx2 onotin := fun x y c fs => by
  cases y <;> simp only [onotin] <;> first | (split <;> exact fun z => nomatch z) | exact fun z => nomatch z
end Py

/-! Tests, displays, subscripts, attributes, calls of built-ins. -/
namespace Py
open PySem L2
section
variable {X : Cx} {W : WX} {A : AS} {H0 : Base} {ow : Ow} {a b c : Expr} {ma mb mc : EM} {pos : Pos}
/-! ### truths -/
theorem bl_of {K : Frag} {A : AS} {H : Hp} {k : Bool} {v : V} (h : Rep K A H (.bl k) v) : v = .bl k := h
theorem rep_bl {K : Frag} {A : AS} {H : Hp} {k : Bool} : Rep K A H (.bl k) (.bl k) := rfl
theorem x_and {rest : List Expr} (ha : PE X a (tE X.K W ow ma)) (hb : PE X (.BoolOp .And (b :: rest) pos) (tE X.K W ow mb)) : PE X (.BoolOp .And (a :: b :: rest) pos) (tE X.K W ow (andE ma mb)) :=
  PE.of (pe_and ha hb) fun σ H Q ⟨A, H0, O, en, R, q⟩ => ⟨A, H0, O, en, R, (Out.bind q).good fun d q1 v H1 s1 r1 => by
    cases d with
    | bl k =>
      cases k with
      | true =>
        refine ⟨true, bl_of r1, ?_⟩
        rw [if_pos rfl]
        exact ⟨A, H0, O, en, R.to s1, (q1.to s1).good fun d2 q2 v2 H2 s2 r2 => q2 v2 H2 (s1.trans s2) r2⟩
      | false =>
        refine ⟨false, bl_of r1, ?_⟩
        rw [if_neg (by decide)]
        exact q1 _ _ s1 rep_bl
    | _ => exact q1.elim⟩
theorem x_or {rest : List Expr} (ha : PE X a (tE X.K W ow ma)) (hb : PE X (.BoolOp .Or (b :: rest) pos) (tE X.K W ow mb)) : PE X (.BoolOp .Or (a :: b :: rest) pos) (tE X.K W ow (orE ma mb)) :=
  PE.of (pe_or ha hb) fun σ H Q ⟨A, H0, O, en, R, q⟩ => ⟨A, H0, O, en, R, (Out.bind q).good fun d q1 v H1 s1 r1 => by
    cases d with
    | bl k =>
      cases k with
      | false =>
        refine ⟨false, bl_of r1, ?_⟩
        rw [if_neg (by decide)]
        exact ⟨A, H0, O, en, R.to s1, (q1.to s1).good fun d2 q2 v2 H2 s2 r2 => q2 v2 H2 (s1.trans s2) r2⟩
      | true =>
        refine ⟨true, bl_of r1, ?_⟩
        rw [if_pos rfl]
        exact q1 _ _ s1 rep_bl
    | _ => exact q1.elim⟩
theorem x_one {op} (h : PE X a (tE X.K W ow ma)) : PE X (.BoolOp op [a] pos) (tE X.K W ow ma) := pe_one h
/-- not x, of a truth -/
theorem x_not (ha : PE X a (tE X.K W ow ma)) : PE X (.UnaryOp .Not a pos) (tE X.K W ow (un onb ma)) :=
  PE.of (pe_not ha) fun σ H Q ⟨A, H0, O, en, R, q⟩ => ⟨A, H0, O, en, R, (Out.bind q).good fun d q1 v H1 s1 r1 => by
    cases d with
    | bl k => exact ⟨k, bl_of r1, q1 _ _ s1 rep_bl⟩
    | _ => exact q1.elim⟩
theorem x_ifExp {t : TM} (hc : PT X c (tT X.K W ow t)) (ha : PE X a (tE X.K W ow ma)) (hb : PE X b (tE X.K W ow mb)) : PE X (.IfExp c a b pos) (tE X.K W ow (ifE t ma mb)) :=
  PE.of (pe_ifExp hc ha hb) fun σ H Q ⟨A, H0, O, en, R, q⟩ => ⟨A, H0, O, en, R, (Out.bind q).good fun k q1 H1 s1 => by
    cases k with
    | true =>
      rw [if_pos rfl] at q1 ⊢
      exact ⟨A, H0, O, en, R.to s1, (q1.to s1).good fun d2 q2 v2 H2 s2 r2 => q2 v2 H2 (s1.trans s2) r2⟩
    | false =>
      rw [if_neg (by decide)] at q1 ⊢
      exact ⟨A, H0, O, en, R.to s1, (q1.to s1).good fun d2 q2 v2 H2 s2 r2 => q2 v2 H2 (s1.trans s2) r2⟩⟩
theorem chain_of {f g : D → D → Res D} (hf : NoEx2 f) (hg : NoEx2 g) {σ : L2.St} {H : Hp} {Q : VK} (h : tE X.K W ow (chain f g ma mb mc) σ H Q) : tChain (r2 X.K f) (r2 X.K g) (tW X.K W ow ma) (tW X.K W ow mb) (tW X.K W ow mc) σ H Q := by
  obtain ⟨A, H0, O, en, R, q⟩ := h
  refine ⟨A, H0, O, en, R, (Out.bind q).good fun d1 q1 v1 H1 s1 r1 => ⟨A, H0, O, en, R.to s1, ((Out.bind q1).to s1).good fun d2 q2 v2 H2 s2 r2 => ?_⟩⟩
  have R2 := (R.to s1).to s2
  have q3 := Out.bind q2
  cases e : f d1 d2 with
  | exc cc fs => exact absurd e (hf _ _ _ _)
  | stuck =>
    rw [e] at q3
    exact q3.elim
  | ok d =>
    rw [e] at q3
    refine ⟨_, d1, d2, d, r1.move s2, r2, R2.there, e, fun v3 H3 s3 r3 => ?_⟩
    have q4 : Out _ _ _ := q3
    cases d with
    | bl k =>
      cases k with
      | false =>
        refine ⟨false, bl_of r3, ?_⟩
        rw [if_neg (by decide)]
        exact q4 _ _ ((s1.trans s2).trans s3) rep_bl
      | true =>
        refine ⟨true, bl_of r3, ?_⟩
        rw [if_pos rfl]
        refine ⟨A, H0, O, en, R2.to s3, ((Out.bind q4).to ((s1.trans s2).trans s3)).good fun d4 q5 v4 H4 s4 r4 => ?_⟩
        exact r2_of (W := W) (O := O) (σ := σ) (H0 := H0) hg (r2.move (s3.trans s4)) r4 ((R2.to s3).to s4).there (q5.good fun d k v H' s' r => k v H' ((((s1.trans s2).trans s3).trans s4).trans s') r)
    | _ => exact q4.elim
theorem x_chain {op op' : CmpOp} {f g : D → D → Res D} (ho : OpR X (compareOp op) (r2 X.K f)) (ho' : OpR X (compareOp op') (r2 X.K g)) (hf : NoEx2 f) (hg : NoEx2 g)
    (ha : PE X a (tW X.K W ow ma)) (hb : PE X b (tW X.K W ow mb)) (hc : PE X c (tW X.K W ow mc))
    (hm : lastMarks [op, op'] [b, c] = false := by with_unfolding_all rfl) : PE X (.Compare a [op, op'] [b, c] pos) (tE X.K W ow (chain f g ma mb mc)) :=
  PE.of (pe_chain ho ho' ha hb hc hm) fun _ _ _ h => chain_of hf hg h
/-! ### tests -/
theorem trim {K : Frag} {A : AS} {H : Hp} {d : D} {v : V} {k : Bool} (h : RepW K A H d v) (e : truthy d = .ok k) : TruV K v H k := by
  cases d with
  | non =>
    simp only [truthy, Res.ok.injEq] at e
    have h' : v = .non := h
    subst h' e
    rfl
  | bl b =>
    simp only [truthy, Res.ok.injEq] at e
    have h' : v = .bl b := h
    subst h' e
    rfl
  | int i =>
    simp only [truthy, Res.ok.injEq] at e
    have h' : v = .int i := h
    subst h' e
    rfl
  | str s =>
    simp only [truthy] at e
    split at e
    · rename_i cc
      simp only [Res.ok.injEq] at e
      have h' : v = .str (Str.ofString s) := h
      subst h' e
      refine ⟨by rw [str_len]; exact cc, ?_⟩
      rw [str_len]
      cases hh : s.length with
      | zero => rfl
      | succ n =>
        have e1 : (((n + 1 : Nat) : Int) == 0) = false := beq_eq_false_iff_ne.mpr (by omega)
        have e2 : ((n + 1 : Nat) == 0) = false := rfl
        unfold bne
        rw [e1, e2]
    · cases e
  | tup xs =>
    simp only [truthy, Res.ok.injEq] at e
    obtain ⟨a, vs, rfl, q, r⟩ := (by simpa only [RepW, Rep] using h : ∃ a vs, v = .ref a ∧ SqT K H a vs ∧ RepL K A H xs vs)
    refine .inr (.inl ⟨vs, q, ?_⟩)
    subst e
    have hl := r.length
    cases xs <;> cases vs <;> first | rfl | simp at hl
  | lst xs =>
    simp only [truthy, Res.ok.injEq] at e
    obtain ⟨a, vs, rfl, q, r⟩ := h
    refine .inl ⟨vs, .inl q, ?_⟩
    subst e
    have hl := r.length
    cases xs <;> cases vs <;> first | rfl | simp at hl
  | dic _ => simp [truthy] at e
  | ins _ _ => simp [truthy] at e
theorem no_truthy : ∀ d c fs, truthy d ≠ .exc c fs := fun d c fs => by
  cases d <;> simp only [truthy] <;> first | (split <;> exact fun z => nomatch z) | exact fun z => nomatch z
/-- any expression as a test -/
theorem t_tst (ha : PE X a (tW X.K W ow ma)) (he : ∀ whole, isTrue a X.env whole = (do let v ← whole; standAt a.pos; holding [v] (PySem.truthy v))) : PT X a (tT X.K W ow (tst ma)) :=
  PT.of (pt_truth ha he) fun σ H Q ⟨A, H0, O, en, R, q⟩ => ⟨A, H0, O, en, R, (Out.bind q).good fun d q1 v H1 s1 r1 => by
    cases e : Py.truthy d with
    | ok k =>
      rw [e] at q1
      exact ⟨k, trim r1 e, q1 H1 s1⟩
    | exc c fs => exact absurd e (no_truthy _ _ _)
    | stuck =>
      rw [e] at q1
      exact q1.elim⟩
/-- what gives a truth, as a test -/
def Bl (m : EM) : Prop := ∀ e d, m e = .ok d → ∃ k, d = .bl k
theorem Bl.bin {f : D → D → Res D} (h : ∀ x y d, f x y = .ok d → ∃ k, d = .bl k) {ma mb : EM} : Bl (bin f ma mb) := fun e d q => by
  unfold Py.bin at q
  cases e1 : ma e with
  | ok d1 =>
    rw [e1, bind_ok] at q
    cases e2 : mb e with
    | ok d2 =>
      rw [e2, bind_ok] at q
      exact h _ _ _ q
    | exc _ _ => rw [e2] at q; cases q
    | stuck => rw [e2] at q; cases q
  | exc _ _ => rw [e1] at q; cases q
  | stuck => rw [e1] at q; cases q
theorem tst_of {m : EM} (hm : Bl m) {σ : L2.St} {H : Hp} {Q : Bool → Hp → Prop} (h : tT X.K W ow (tst m) σ H Q) : tE X.K W ow m σ H fun x H' => ∃ k, x = .bl k ∧ Q k H' := by
  obtain ⟨A, H0, O, en, R, q⟩ := h
  refine ⟨A, H0, O, en, R, (Out.bind q).imp (fun d e q1 v H1 s1 r1 => ?_) fun _ _ x => x⟩
  obtain ⟨k, rfl⟩ := hm _ _ e
  exact ⟨k, bl_of r1, q1 H1 s1⟩
/-- a comparison as a test -/
theorem t_cmp {op : CmpOp} {f : D → D → Res D} (ho : OpR X (compareOp op) (r2 X.K f)) (hf : NoEx2 f) (hb2 : ∀ x y d, f x y = .ok d → ∃ k, d = .bl k) (ha : PE X a (tW X.K W ow ma)) (hb : PE X b (tW X.K W ow mb)) (hm : behindInMarks op b = false) :
    PT X (.Compare a [op] [b] pos) (tT X.K W ow (tst (bin f ma mb))) :=
  PT.of (pt_cmpR ho ha hb hm) fun _ _ _ h => two_of hf (tst_of (Bl.bin hb2) h)
theorem t_chain {op op' : CmpOp} {f g : D → D → Res D} (ho : OpR X (compareOp op) (r2 X.K f)) (ho' : OpR X (compareOp op') (r2 X.K g)) (hf : NoEx2 f) (hg : NoEx2 g) (hm2 : Bl (chain f g ma mb mc))
    (ha : PE X a (tW X.K W ow ma)) (hb : PE X b (tW X.K W ow mb)) (hc : PE X c (tW X.K W ow mc))
    (hm : lastMarks [op, op'] [b, c] = false := by with_unfolding_all rfl) : PT X (.Compare a [op, op'] [b, c] pos) (tT X.K W ow (tst (chain f g ma mb mc))) :=
  PT.of (pt_chain ho ho' ha hb hc hm) fun _ _ _ h => chain_of hf hg (tst_of hm2 h)
theorem Bl.chain {f g : D → D → Res D} (h : ∀ x y d, g x y = .ok d → ∃ k, d = .bl k) {ma mb mc : EM} : Bl (chain f g ma mb mc) := fun e d q => by
  unfold Py.chain at q
  cases e1 : ma e with
  | ok d1 =>
    rw [e1, bind_ok] at q
    cases e2 : mb e with
    | ok d2 =>
      rw [e2, bind_ok] at q
      cases e3 : f d1 d2 with
      | ok z =>
        rw [e3, bind_ok] at q
        cases z with
        | bl k =>
          cases k with
          | false =>
            simp only [Res.ok.injEq] at q
            exact ⟨false, q.symm⟩
          | true =>
            simp only at q
            cases e4 : mc e with
            | ok d4 =>
              rw [e4, bind_ok] at q
              exact h _ _ _ q
            | exc _ _ => rw [e4] at q; cases q
            | stuck => rw [e4] at q; cases q
        | _ => cases q
      | exc _ _ => rw [e3] at q; cases q
      | stuck => rw [e3] at q; cases q
    | exc _ _ => rw [e2] at q; cases q
    | stuck => rw [e2] at q; cases q
  | exc _ _ => rw [e1] at q; cases q
  | stuck => rw [e1] at q; cases q
theorem b_lt : ∀ x y d, olt x y = .ok d → ∃ k, d = .bl k := fun x y d h => by
  cases x <;> cases y <;> simp only [olt, Res.ok.injEq, reduceCtorEq] at h
  exact ⟨_, h.symm⟩
theorem b_le : ∀ x y d, ole x y = .ok d → ∃ k, d = .bl k := fun x y d h => by
  cases x <;> cases y <;> simp only [ole, Res.ok.injEq, reduceCtorEq] at h
  exact ⟨_, h.symm⟩
theorem b_gt : ∀ x y d, ogt x y = .ok d → ∃ k, d = .bl k := fun x y d h => by
  cases x <;> cases y <;> simp only [ogt, Res.ok.injEq, reduceCtorEq] at h
  exact ⟨_, h.symm⟩
theorem b_ge : ∀ x y d, oge x y = .ok d → ∃ k, d = .bl k := fun x y d h => by
  cases x <;> cases y <;> simp only [oge, Res.ok.injEq, reduceCtorEq] at h
  exact ⟨_, h.symm⟩
theorem b_eq : ∀ x y d, oeq x y = .ok d → ∃ k, d = .bl k := fun x y d h => by
  unfold oeq at h
  split at h <;> simp only [Res.ok.injEq, reduceCtorEq] at h
  exact ⟨_, h.symm⟩
theorem b_ne : ∀ x y d, Py.one x y = .ok d → ∃ k, d = .bl k := fun x y d h => by
  unfold Py.one at h
  split at h <;> simp only [Res.ok.injEq, reduceCtorEq] at h
  exact ⟨_, h.symm⟩
theorem b_in : ∀ x y d, oin x y = .ok d → ∃ k, d = .bl k := fun x y d h => by
  cases y <;> simp only [oin, reduceCtorEq] at h <;> split at h <;> simp only [Res.ok.injEq, reduceCtorEq] at h <;> exact ⟨_, h.symm⟩
theorem b_notin : ∀ x y d, onotin x y = .ok d → ∃ k, d = .bl k := fun x y d h => by
  cases y <;> simp only [onotin, reduceCtorEq] at h <;> split at h <;> simp only [Res.ok.injEq, reduceCtorEq] at h <;> exact ⟨_, h.symm⟩
theorem t_and1 {t : TM} (ha : PT X a (tT X.K W ow t)) : PW X (.BoolOp .And [a] pos) (tT X.K W ow t) := pw_and1 ha
theorem t_or1 {t : TM} (ha : PT X a (tT X.K W ow t)) : PW X (.BoolOp .Or [a] pos) (tT X.K W ow t) := pw_or1 ha
theorem t_and {t u : TM} {rest : List Expr} (ha : PT X a (tT X.K W ow t)) (hb : PW X (.BoolOp .And (b :: rest) pos) (tT X.K W ow u)) : PW X (.BoolOp .And (a :: b :: rest) pos) (tT X.K W ow (andT t u)) :=
  PW.of (pw_and ha hb) fun σ H Q ⟨A, H0, O, en, R, q⟩ => ⟨A, H0, O, en, R, (Out.bind q).good fun k q1 H1 s1 => by
    cases k with
    | true =>
      rw [if_pos rfl] at q1 ⊢
      exact ⟨A, H0, O, en, R.to s1, (q1.to s1).good fun d2 q2 H2 s2 => q2 H2 (s1.trans s2)⟩
    | false =>
      rw [if_neg (by decide)] at q1 ⊢
      exact q1 H1 s1⟩
theorem t_or {t u : TM} {rest : List Expr} (ha : PT X a (tT X.K W ow t)) (hb : PW X (.BoolOp .Or (b :: rest) pos) (tT X.K W ow u)) : PW X (.BoolOp .Or (a :: b :: rest) pos) (tT X.K W ow (orT t u)) :=
  PW.of (pw_or ha hb) fun σ H Q ⟨A, H0, O, en, R, q⟩ => ⟨A, H0, O, en, R, (Out.bind q).good fun k q1 H1 s1 => by
    cases k with
    | false =>
      rw [if_neg (by decide)] at q1 ⊢
      exact ⟨A, H0, O, en, R.to s1, (q1.to s1).good fun d2 q2 H2 s2 => q2 H2 (s1.trans s2)⟩
    | true =>
      rw [if_pos rfl] at q1 ⊢
      exact q1 H1 s1⟩
theorem t_not {t : TM} (ha : PT X a (tT X.K W ow t)) : PT X (.UnaryOp .Not a pos) (tT X.K W ow (notT t)) :=
  PT.of (pt_not ha) fun σ H Q ⟨A, H0, O, en, R, q⟩ => ⟨A, H0, O, en, R, (Out.bind q).good fun k q1 H1 s1 => q1 H1 s1⟩
/-! ### is None, is True -/
theorem isN_v {K : Frag} {A : AS} {H : Hp} {d : D} {v : V} (h : RepW K A H d v) : decide (v = .non) = isNon d := by
  cases d with
  | non =>
    have h' : v = .non := h
    subst h'
    rfl
  | bl b =>
    have h' : v = .bl b := h
    subst h'
    rfl
  | int b =>
    have h' : v = .int b := h
    subst h'
    rfl
  | str b =>
    have h' : v = .str (Str.ofString b) := h
    subst h'
    rfl
  | tup xs =>
    obtain ⟨a, vs, rfl, q, r⟩ := (by simpa only [RepW, Rep] using h : ∃ a vs, v = .ref a ∧ SqT K H a vs ∧ RepL K A H xs vs)
    rfl
  | lst xs =>
    obtain ⟨a, vs, rfl, q, r⟩ := h
    rfl
  | dic _ => simp only [RepW, Rep] at h
  | ins _ _ =>
    obtain ⟨a, dx, fvs, rfl, _⟩ := h
    rfl
theorem x_isN {j pos'} (ha : PE X a (tW X.K W ow ma)) : PE X (.Compare a [.Is] [.Constant .none j pos'] pos) (tE X.K W ow (un oisN ma)) :=
  PE.of (pe_cmp (pc_isN ha)) fun σ H Q ⟨A, H0, O, en, R, q⟩ => ⟨A, H0, O, en, R, (Out.bind q).good fun d q1 v H1 s1 r1 => by
    dsimp only
    rw [isN_v r1]
    exact q1 _ _ s1 rep_bl⟩
theorem x_notN {j pos'} (ha : PE X a (tW X.K W ow ma)) : PE X (.Compare a [.IsNot] [.Constant .none j pos'] pos) (tE X.K W ow (un onotN ma)) :=
  PE.of (pe_cmp (pc_notN ha)) fun σ H Q ⟨A, H0, O, en, R, q⟩ => ⟨A, H0, O, en, R, (Out.bind q).good fun d q1 v H1 s1 r1 => by
    dsimp only
    rw [isN_v r1]
    exact q1 _ _ s1 rep_bl⟩
theorem Bl.un {f : D → Res D} (h : ∀ x d, f x = .ok d → ∃ k, d = .bl k) {ma : EM} : Bl (un f ma) := fun e d q => by
  unfold Py.un at q
  cases e1 : ma e with
  | ok d1 =>
    rw [e1, bind_ok] at q
    exact h _ _ q
  | exc _ _ => rw [e1] at q; cases q
  | stuck => rw [e1] at q; cases q
theorem b_isN : ∀ x d, oisN x = .ok d → ∃ k, d = .bl k := fun x d h => ⟨_, (Res.ok.inj h).symm⟩
theorem b_notN : ∀ x d, onotN x = .ok d → ∃ k, d = .bl k := fun x d h => ⟨_, (Res.ok.inj h).symm⟩
theorem t_of {m : EM} (hm : Bl m) (h : PE X a (tE X.K W ow m)) (he : ∀ whole, isTrue a X.env whole = (do let v ← whole; standAt a.pos; holding [v] (PySem.truthy v)) := by intro _; rfl) : PT X a (tT X.K W ow (tst m)) :=
  PT.of (pt_val h he) fun _ _ _ q => tst_of hm q
theorem t_isN {j pos'} (ha : PE X a (tW X.K W ow ma)) : PT X (.Compare a [.Is] [.Constant .none j pos'] pos) (tT X.K W ow (tst (un oisN ma))) :=
  PT.of (pt_cmp (pc_isN ha)) fun σ H Q h => by
    obtain ⟨A, H0, O, en, R, q⟩ := tst_of (Bl.un b_isN) h
    refine ⟨A, H0, O, en, R, (Out.bind q).good fun d q1 v H1 s1 r1 => ?_⟩
    dsimp only
    rw [isN_v r1]
    exact q1 _ _ s1 rep_bl
theorem t_notN {j pos'} (ha : PE X a (tW X.K W ow ma)) : PT X (.Compare a [.IsNot] [.Constant .none j pos'] pos) (tT X.K W ow (tst (un onotN ma))) :=
  PT.of (pt_cmp (pc_notN ha)) fun σ H Q h => by
    obtain ⟨A, H0, O, en, R, q⟩ := tst_of (Bl.un b_notN) h
    refine ⟨A, H0, O, en, R, (Out.bind q).good fun d q1 v H1 s1 r1 => ?_⟩
    dsimp only
    rw [isN_v r1]
    exact q1 _ _ s1 rep_bl
end
end Py

/-! Displays, subscripts, attributes, calls of built-ins. -/
namespace Py
open PySem L2
/-- values and data, one by one -/
theorem paired_rep {K : Frag} {A : AS} {H : Hp} : ∀ {vs : List V} {ds : List D}, Paired (fun v d => Rep K A H d v) vs ds → RepL K A H ds vs
  | _, _, .nil => by simp [RepL]
  | _, _, .cons r t => by
    simp only [RepL]
    exact ⟨_, _, rfl, r, paired_rep t⟩
theorem paired_none {K : Frag} {A : AS} {H : Hp} : ∀ {vs : List V} {ds : List D}, Paired (fun v d => RepW K A H d v) vs ds → RepL K (fun _ => False) H ds vs
  | _, _, .nil => by simp [RepL]
  | _, _, .cons r t => by
    simp only [RepL]
    exact ⟨_, _, rfl, RepW.none r, paired_none t⟩
section
variable {X : Cx} {W : WX} {A : AS} {H0 : Base} {ow : Ow} {a b c e : Expr} {es : List Expr} {m ma mb mc : EM} {am : AM} {pos : Pos}
/-! ### argument lists -/
abbrev aE (K : Frag) := tA (Rep K) K
abbrev aW (K : Frag) := tA (RepW K) K
theorem xa_nil {R : RR} : PA X [] (tA R X.K W ow argN) := PA.of pa_nil fun σ H Q ⟨A, H0, O, en, R', q⟩ => q [] H (Same.refl H) .nil
theorem xa_cons (ha : PE X e (tE X.K W ow m)) (hr : PA X es (aE X.K W ow am)) (hs : starEach (e :: es) X.env = (false, eval e X.env) :: starEach es X.env := by rfl) : PA X (e :: es) (aE X.K W ow (argC m am)) :=
  PA.of (pa_cons ha hr hs) fun σ H Q ⟨A, H0, O, en, R, q⟩ => ⟨A, H0, O, en, R, (Out.bind q).good fun d q1 v H1 s1 r1 => ⟨A, H0, O, en, R.to s1, ((Out.bind q1).to s1).good fun ds q2 vs H2 s2 r2 =>
    q2 (v :: vs) H2 (s1.trans s2) (.cons (Rep.move (Mv.same s2) _ _ r1) r2)⟩⟩
theorem xw_cons (ha : PE X e (tW X.K W ow m)) (hr : PA X es (aW X.K W ow am)) (hs : starEach (e :: es) X.env = (false, eval e X.env) :: starEach es X.env := by rfl) : PA X (e :: es) (aW X.K W ow (argC m am)) :=
  PA.of (pa_cons ha hr hs) fun σ H Q ⟨A, H0, O, en, R, q⟩ => ⟨A, H0, O, en, R, (Out.bind q).good fun d q1 v H1 s1 r1 => ⟨A, H0, O, en, R.to s1, ((Out.bind q1).to s1).good fun ds q2 vs H2 s2 r2 =>
    q2 (v :: vs) H2 (s1.trans s2) (.cons (RepW.move s2 r1) r2)⟩⟩
/-! ### displays -/
theorem x_tup {x1} (h : PA X es (aE X.K W ow am)) : PE X (.Tuple es x1 pos) (tE X.K W ow (tupE am)) :=
  PE.of (pe_tup h) fun σ H Q ⟨A, H0, O, en, R, q⟩ => ⟨A, H0, O, en, R, (Out.bind q).good fun ds q1 vs H1 s1 r1 => by
    have rl := paired_rep r1
    unfold chk at q1
    split at q1
    · rename_i z
      exact ⟨by rw [← rl.length]; exact z, fun p hp => q1 _ _ (s1.trans (new_same hp)) (new_tup rl hp)⟩
    · exact q1.elim⟩
theorem f_lst (h : PA X es (aE X.K W ow am)) : PE X (.List es pos) (tF X.K W ow (lstE am)) :=
  PE.of (pe_lst h) fun σ H Q ⟨A, H0, O, en, R, q⟩ => ⟨A, H0, O, en, R, (Out.bind q).good fun ds q1 vs H1 s1 r1 => by
    have rl := paired_rep r1
    unfold chk at q1
    split at q1
    · rename_i z
      refine ⟨by rw [← rl.length]; exact z, fun p hp => q1 p _ (s1.free hp) (s1.trans (new_same hp)) ⟨vs, upd_same, ?_⟩⟩
      refine RepL.move ⟨fun b hb => ?_, fun b o e _ => new_same hp b o e⟩ _ _ rl
      rcases hb with hb | rfl
      · exact .inl hb
      · exact .inr hp
    · exact q1.elim⟩
/-! ### subscripts -/
theorem y_idx : IxR X (r2 X.K oidx) := by
  intro value slice pins s σ H x y v u Q I rx ry ⟨A, d1, d2, d, h1, h2, ha, e, k⟩ hs
  cases d1 with
  | lst xs =>
    cases d2 <;> simp only [oidx, reduceCtorEq] at e
    rename_i i
    obtain ⟨a, vs, rfl, q, r⟩ := h1
    unfold opt at e
    split at e
    · rename_i d' he
      simp only [Res.ok.injEq] at e
      subst e
      unfold atI at he
      cases hj : ixN xs.length i with
      | none => rw [hj] at he; cases he
      | some j =>
        rw [hj] at he
        obtain ⟨w, hw, rw'⟩ := r.get (show xs[j]? = some d' from he)
        refine ix_list value slice pins s σ H _ _ v u Q I rx ry ⟨a, vs, i, w, rfl, h2, .inl q, ?_, k w H (Same.refl H) rw'⟩ hs
        unfold atI
        rw [← r.length, hj]
        exact hw
    · cases e
  | tup xs =>
    cases d2 <;> simp only [oidx, reduceCtorEq] at e
    rename_i i
    obtain ⟨a, vs, rfl, q, r⟩ := (by simpa only [RepW, Rep] using h1 : ∃ a vs, x = .ref a ∧ SqT X.K H a vs ∧ RepL X.K A H xs vs)
    unfold opt at e
    split at e
    · rename_i d' he
      simp only [Res.ok.injEq] at e
      subst e
      unfold atI at he
      cases hj : ixN xs.length i with
      | none => rw [hj] at he; cases he
      | some j =>
        rw [hj] at he
        obtain ⟨w, hw, rw'⟩ := r.get (show xs[j]? = some d' from he)
        refine ix_tup value slice pins s σ H _ _ v u Q I rx ry ⟨a, vs, i, w, rfl, h2, q, ?_, k w H (Same.refl H) rw'⟩ hs
        unfold atI
        rw [← r.length, hj]
        exact hw
    · cases e
  | str z =>
    cases d2 <;> simp only [oidx, reduceCtorEq] at e
    rename_i i
    split at e
    · rename_i hz
      have h1' : x = .str (Str.ofString z) := h1
      have h2' : y = .int i := h2
      subst h1' h2'
      unfold opt at e
      split at e
      · rename_i d' he
        simp only [Res.ok.injEq] at e
        subst e
        unfold atI at he
        cases hj : ixN z.toList.length i with
        | none => rw [hj] at he; cases he
        | some j =>
          rw [hj] at he
          have he1 : Option.map (fun c => D.str (String.ofList [c])) (z.toList[j]?) = some d' := he
          cases hc : z.toList[j]? with
          | none => rw [hc] at he1; cases he1
          | some ch =>
            rw [hc] at he1
            have he2 : D.str (String.ofList [ch]) = d' := Option.some.inj he1
            subst he2
            have e1 : (Str.ofString z).cps.toList = z.toList.map Char.toNat := by rw [Str.ofString_eq_toList]
            refine ix_str value slice pins s σ H _ _ v u Q I rx ry ⟨_, i, ch.toNat, rfl, rfl, by rw [str_len]; exact hz, ?_, ?_⟩ hs
            · unfold atI
              rw [e1, List.length_map, hj]
              show (List.map Char.toNat z.toList)[j]? = _
              rw [List.getElem?_map, hc]
              rfl
            · have e2 : Str.ofString (String.ofList [ch]) = ⟨#[ch.toNat]⟩ := by
                rw [Str.ofString_eq_toList, String.toList_ofList]
                rfl
              rw [← e2]
              exact k _ H (Same.refl H) rfl
      · cases e
    · cases e
  | dic kvs => simp only [RepW, Rep] at h1
  | _ => simp [oidx] at e
theorem n_idx : NoEx2 oidx := fun x y c fs => by
  have ho : ∀ o, opt o ≠ .exc c fs := fun o => by cases o <;> exact fun z => nomatch z
  cases x <;> cases y <;> simp only [oidx] <;> first | exact ho _ | (split <;> first | exact ho _ | exact fun z => nomatch z) | exact fun z => nomatch z
theorem x_idx (ha : PE X a (tW X.K W ow ma)) (hb : PE X b (tW X.K W ow mb)) (hs : PlainIx b := by exact fun _ _ => rfl) : PE X (.Subscript a b pos) (tE X.K W ow (bin oidx ma mb)) :=
  PE.of (pe_ix y_idx ha hb hs) fun _ _ _ h => two_of n_idx h
/-! ### slices -/
theorem RepL.cut {K : Frag} {A : AS} {H : Hp} {ds : List D} {vs : List V} (h : RepL K A H ds vs) (lo hi : Option Int) : RepL K A H (Py.cut ds lo hi) (cutV vs lo hi) := by
  unfold Py.cut cutV
  rw [h.length]
  exact (h.drop _).take _
def rS (K : Frag) : V → Option Int → Option Int → Hp → VK → Prop := fun x lo hi H Q => ∃ A d1 d, RepW K A H d1 x ∧ (∀ a, A a → H a ≠ none) ∧ oslc d1 lo hi = .ok d ∧ ∀ v H', Same H H' → Rep K A H' d v → Q v H'
theorem cut_all {α : Type} {xs : List α} {lo hi : Option Int} (h : HT.sIx xs.length 0 lo = 0 ∧ HT.sIx xs.length xs.length hi = xs.length) : Py.cut xs lo hi = xs := by
  unfold Py.cut
  rw [h.1, h.2]
  simp
theorem y_slc : SlR X (rS X.K) := by
  intro pins s σ H x v vl vu lo hi sl Q I rx hs pl' pu h
  obtain ⟨A, d1, d, h1, ha, e, k⟩ := h
  cases d1 with
  | lst xs =>
    simp only [oslc, Res.ok.injEq] at e
    subst e
    obtain ⟨a, vs, rfl, q, r⟩ := h1
    exact sl_list pins s σ H _ v vl vu lo hi sl Q I rx hs pl' pu ⟨a, vs, rfl, .inl q, fun p hp => k _ _ (new_same hp) (new_lst ha (r.cut lo hi) hp)⟩
  | tup xs =>
    simp only [oslc, Res.ok.injEq] at e
    subst e
    obtain ⟨a, vs, rfl, q, r⟩ := (by simpa only [RepW, Rep] using h1 : ∃ a vs, x = .ref a ∧ SqT X.K H a vs ∧ RepL X.K A H xs vs)
    refine sl_tupA pins s σ H _ v vl vu lo hi sl Q I rx hs pl' pu ⟨a, vs, rfl, q, fun z => ?_, fun _ p hp => k _ _ (new_same hp) (new_tup (r.cut lo hi) hp)⟩
    rw [← r.length] at z
    rw [cut_all z] at k
    exact k _ H (Same.refl H) h1
  | str z =>
    simp only [oslc] at e
    split at e
    · rename_i hz
      simp only [Res.ok.injEq] at e
      subst e
      have h1' : x = .str (Str.ofString z) := h1
      subst h1'
      refine sl_str pins s σ H _ v vl vu lo hi sl Q I rx hs pl' pu ⟨_, rfl, by rw [str_len]; exact hz, ?_⟩
      have e1 : cutS (Str.ofString z) lo hi = Str.ofString (String.ofList (Py.cut z.toList lo hi)) := by
        rw [Str.ofString_eq_toList (String.ofList _), String.toList_ofList]
        unfold cutS Py.cut
        rw [str_len]
        rw [Str.ofString_eq_toList]
        simp [List.map_take, List.map_drop, String.length_toList]
      rw [e1]
      exact k _ H (Same.refl H) rfl
    · cases e
  | _ => simp [oslc] at e
end
end Py

/-! Slices as expressions, attributes, calls of built-ins, isinstance. -/
namespace Py
open PySem L2
/-! ### own classes: what isinstance and attributes ask -/
def tyNames : List String := ["NoneType", "bool", "int", "str", "tuple", "list", "dict"]
def kitB (K : Frag) (cs : List String) : Bool :=
  cs.all fun c => (He.Fa.cls (Str.ofString c)).ok K
    && (decide (PySem.W.findIn K (.ref (ca K c)) "__class__" = some (some (.builtin "object.__class__")))
    && (decide (PySem.W.specialIn K (.builtin "object.__class__") "__get__" = some (some (.builtin "getset_descriptor.__get__")))
    && (decide (PySem.W.takesIn K (.builtin "object.__class__") = some true)
    && (decide (PySem.W.mroIn K (ca K c) (.type "object") = some true)
    && (cs.all (fun d => decide (PySem.W.kitOne K (.ref (ca K c)) (.ref (ca K d)) = some (decide (c = d))))
    && tyNames.all fun T => decide (PySem.W.kitOne K (.ref (ca K c)) (.type T) = some false) && decide (PySem.W.kitOne K (.type T) (.ref (ca K c)) = some false))))))
structure KitC (K : Frag) (cs : List String) (c : String) : Prop where
  cl : Cls K (ca K c)
  ha : PySem.W.findIn K (.ref (ca K c)) "__class__" = some (some (.builtin "object.__class__"))
  hn : PySem.W.specialIn K (.builtin "object.__class__") "__get__" = some (some (.builtin "getset_descriptor.__get__"))
  ht : PySem.W.takesIn K (.builtin "object.__class__") = some true
  hm : PySem.W.mroIn K (ca K c) (.type "object") = some true
  oo : ∀ d ∈ cs, PySem.W.kitOne K (.ref (ca K c)) (.ref (ca K d)) = some (decide (c = d))
  ob : ∀ T ∈ tyNames, PySem.W.kitOne K (.ref (ca K c)) (.type T) = some false
  bo : ∀ T ∈ tyNames, PySem.W.kitOne K (.type T) (.ref (ca K c)) = some false
def KitF (K : Frag) (cs : List String) : Prop := ∀ c ∈ cs, KitC K cs c
theorem kit_of_b {K : Frag} {cs : List String} (h : kitB K cs = true) : KitF K cs := fun c hc => by
  have h1 := List.all_eq_true.mp h c hc
  simp only [Bool.and_eq_true, decide_eq_true_eq, List.all_eq_true] at h1
  obtain ⟨a1, a2, a3, a4, a5, a6, a7⟩ := h1
  exact ⟨He.cls_ok a1, a2, a3, a4, a5, a6, fun T hT => (a7 T hT).1, fun T hT => (a7 T hT).2⟩
def tyN : Ty → String
  | .non => "NoneType" | .bl => "bool" | .int => "int" | .str => "str" | .tup => "tuple" | .lst => "list" | .dic => "dict" | .cls c => c
def tyV (K : Frag) : Ty → V
  | .cls c => .ref (ca K c)
  | t => .ty (tyN t)
def tyU (K : Frag) : Ty → Value
  | .cls c => .ref (ca K c)
  | t => .type (tyN t)
theorem ty_cls (K : Frag) (t : Ty) : ClsV (tyV K t) (tyU K t) := by
  cases t <;> first | exact .ty _ | exact .own _
theorem ty_rel (K : Frag) (t : Ty) : RelV (tyV K t) (tyU K t) := by
  cases t <;> rfl
/-- a datum's own type -/
theorem kit_bb (a b : Ty) : (∀ c, a ≠ .cls c) → (∀ c, b ≠ .cls c) → b ≠ .non → L2.kitB (tyN a) (tyN b) = some (decide (b = a) || (decide (a = .bl) && decide (b = .int))) := by
  intro ha hb hn
  cases a <;> first | exact absurd rfl (ha _) | skip
  all_goals cases b <;> first | exact absurd rfl (hb _) | exact absurd rfl hn | (decide +kernel)
theorem isI_ty (t : Ty) (d : D) (h : t ≠ .non) : isI t d = (decide (t = tyOf d) || (decide (tyOf d = .bl) && decide (t = .int))) := by
  cases d <;> cases t <;> simp [isI, tyOf] at h ⊢
theorem kit_one {K : Frag} {cs : List String} (F : KitF K cs) {t : Ty} {d : D} (h1 : inCs cs t = true) (h2 : inCs cs (tyOf d) = true) (hn : t ≠ .non) : PySem.W.kitOne K (tyU K (tyOf d)) (tyU K t) = some (isI t d) := by
  rw [isI_ty t d hn]
  cases ht : t with
  | cls c =>
    subst ht
    have hc : c ∈ cs := by simpa [inCs] using h1
    cases hd : tyOf d with
    | cls c' =>
      rw [hd] at h2
      have hc' : c' ∈ cs := by simpa [inCs] using h2
      have := (F c' hc').oo c hc
      show PySem.W.kitOne K (.ref (ca K c')) (.ref (ca K c)) = _
      rw [this]
      by_cases q : c = c'
      · subst q
        simp
      · have q2 : ¬ c' = c := fun z => q z.symm
        simp [q, q2]
    | _ =>
      show PySem.W.kitOne K (.type _) (.ref (ca K c)) = _
      rw [(F c hc).bo _ (by decide)]
      simp
  | non => exact absurd ht hn
  | _ =>
    cases hd : tyOf d with
    | cls c' =>
      rw [hd] at h2
      have hc' : c' ∈ cs := by simpa [inCs] using h2
      show PySem.W.kitOne K (.ref (ca K c')) (.type _) = _
      rw [(F c' hc').ob _ (by decide)]
      simp
    | _ => exact L2.kit_ty (by rw [← show tyN _ = _ from rfl]; decide +kernel)
theorem tyx_of {K : Frag} {cs : List String} (F : KitF K cs) {A : AS} {H : Hp} {d : D} {v : V} (h : RepW K A H d v) (h2 : inCs cs (tyOf d) = true) : TyX K H v (tyU K (tyOf d)) := by
  cases d with
  | non =>
    have h' : v = .non := h
    subst h'
    exact .base .non
  | bl b =>
    have h' : v = .bl b := h
    subst h'
    exact .base (.bl _)
  | int b =>
    have h' : v = .int b := h
    subst h'
    exact .base (.int _)
  | str b =>
    have h' : v = .str (Str.ofString b) := h
    subst h'
    exact .base (.str _)
  | tup xs =>
    obtain ⟨a, vs, rfl, q, r⟩ := (by simpa only [RepW, Rep] using h : ∃ a vs, v = .ref a ∧ SqT K H a vs ∧ RepL K A H xs vs)
    rcases q with (q | ⟨o, q⟩) | ⟨o, its, n, q1, q2, _⟩
    · exact .base (.tup q)
    · exact .fTuple q
    · exact .kTuple q1 q2
  | lst xs =>
    obtain ⟨a, vs, rfl, q, r⟩ := h
    rcases q with q | ⟨o, q⟩
    · exact .base (.lst q)
    · exact .base (.frz q)
  | dic _ => simp only [RepW, Rep] at h
  | ins c fs =>
    obtain ⟨a, dx, fvs, rfl, q, _⟩ := h
    have hc : c ∈ cs := by simpa [inCs, tyOf] using h2
    have k := F c hc
    exact .base (.ins q k.cl k.ha k.hn k.ht k.hm)
/-- isinstance(x, (t1, t2, ..)) -/
theorem n_isi {cs : List String} {ts : List Ty} : NoEx1 (oisi cs ts) := fun x c fs => by
  unfold oisi
  split <;> exact fun z => nomatch z
theorem b_isi {cs : List String} {ts : List Ty} : ∀ x d, oisi cs ts x = .ok d → ∃ k, d = .bl k := fun x d h => by
  unfold oisi at h
  split at h <;> simp only [Res.ok.injEq, reduceCtorEq] at h
  exact ⟨_, h.symm⟩
theorem isi_ok {cs : List String} {ts : List Ty} {d r : D} (h : oisi cs ts d = .ok r) : inCs cs (tyOf d) = true ∧ (∀ t ∈ ts, inCs cs t = true ∧ t ≠ .non) ∧ r = .bl (ts.any fun t => isI t d) := by
  unfold oisi at h
  split at h
  · rename_i c
    simp only [Bool.and_eq_true, List.all_eq_true, decide_eq_true_eq] at c
    simp only [Res.ok.injEq] at h
    exact ⟨c.1, c.2, h.symm⟩
  · cases h
theorem kit_any {K : Frag} {cs : List String} (F : KitF K cs) {d : D} (h2 : inCs cs (tyOf d) = true) : ∀ {ts : List Ty}, (∀ t ∈ ts, inCs cs t = true ∧ t ≠ .non) → PySem.W.kitAny K (tyU K (tyOf d)) (ts.map (tyU K)) = some (ts.any fun t => isI t d)
  | [], _ => rfl
  | t :: ts, h => by
    obtain ⟨a1, a2⟩ := h t (by simp)
    simp only [List.map_cons, List.any_cons]
    refine L2.kitAny_cons (kit_one F a1 h2 a2) (fun e => ?_) fun e => by rw [e]; rfl
    rw [e, Bool.false_or]
    exact kit_any F h2 fun t' h' => h t' (by simp [h'])
theorem RepL.reverse {K : Frag} {A : AS} {H : Hp} : ∀ {ds : List D} {vs : List V}, RepL K A H ds vs → RepL K A H ds.reverse vs.reverse
  | [], vs, h => by
    simp only [RepL] at h
    subst h
    simp [RepL]
  | d :: ds, vs, h => by
    simp only [RepL] at h
    obtain ⟨v, r, rfl, h1, h2⟩ := h
    simp only [List.reverse_cons]
    exact (RepL.reverse h2).append (RepL.one h1)
section
variable {X : Cx} {W : WX} {A : AS} {H0 : Base} {ow : Ow} {a b c e : Expr} {es : List Expr} {m ma mb mc : EM} {am : AM} {pos : Pos}
theorem x_isi1 {cs : List String} {t : Ty} {x : Str} {p : Pos} (hx : x = "isinstance") (F : KitF X.K cs) (hg : Gl X x) (hm : X.mg x = none) (ha : PE X a (tW X.K W ow ma)) (hb : PE X b (tC (tyV X.K t)))
    (hs : starEach [a, b] X.env = (false, eval a X.env) :: starEach [b] X.env := by rfl) (hs2 : starEach [b] X.env = [(false, eval b X.env)] := by rfl) (hpl : (backTo pos (starEach [b] X.env)).any (·.1) = false := by rfl) :
    PE X (.Call (.Name x p) [a, b] [] pos) (tE X.K W ow (un (oisi cs [t]) ma)) := by
  subst hx
  refine PE.of (pe_callB call_isi hg hm (by decide +kernel) (pa_cons ha (pa_cons hb pa_nil hs2) hs) (by decide) (by decide) hs hpl) fun σ H Q ⟨A, H0, O, en, R, q⟩ => ⟨A, H0, O, en, R, (Out.bind q).good fun d q1 v H1 s1 r1 => ?_⟩
  cases e : oisi cs [t] d with
  | exc _ _ => exact absurd e (n_isi _ _ _)
  | stuck =>
    rw [e] at q1
    exact q1.elim
  | ok r =>
    rw [e] at q1
    obtain ⟨h1, h2, rfl⟩ := isi_ok e
    obtain ⟨h3, h4⟩ := h2 t (by simp)
    refine ⟨v, tyV X.K t, tyU X.K (tyOf d), tyU X.K t, isI t d, rfl, ty_cls _ _, tyx_of F r1 h1, kit_one F h3 h1 h4, ?_⟩
    have q2 := q1 (.bl ([t].any fun t => isI t d)) H1 s1 rep_bl
    simpa using q2
/-- a tuple of classes as written -/
inductive TyL (X : Cx) : List Expr → List Ty → TA → Prop
  | nil : TyL X [] [] tNil
  | cons {e : Expr} {es : List Expr} {t : Ty} {ts : List Ty} {r : TA} (h : PE X e (tC (tyV X.K t))) (k : TyL X es ts r) (hs : starEach (e :: es) X.env = (false, eval e X.env) :: starEach es X.env) : TyL X (e :: es) (t :: ts) (tCons (tC (tyV X.K t)) r)
theorem TyL.pa {es : List Expr} {ts : List Ty} {r : TA} (h : TyL X es ts r) : PA X es r := by
  induction h with
  | nil => exact pa_nil
  | cons h _ hs ih => exact pa_cons h ih hs
theorem TyL.run {es : List Expr} {ts : List Ty} {r : TA} (h : TyL X es ts r) : ∀ {σ : L2.St} {H : Hp} {Q : List V → Hp → Prop}, Q (ts.map (tyV X.K)) H → r σ H Q := by
  induction h with
  | nil => exact fun q => q
  | cons h _ hs ih => exact fun q => ih (Q := fun xs H2 => _) q
theorem ty_all (K : Frag) : ∀ ts : List Ty, Paired ClsV (ts.map (tyV K)) (ts.map (tyU K))
  | [] => .nil
  | t :: ts => .cons (ty_cls K t) (ty_all K ts)
theorem x_isiT {cs : List String} {ts : List Ty} {r : TA} {x : Str} {p tp : Pos} {tk} (hx : x = "isinstance") (F : KitF X.K cs) (hg : Gl X x) (hm : X.mg x = none) (ha : PE X a (tW X.K W ow ma)) (hb : TyL X es ts r) (hz : ts.length ≤ 20)
    (hs : starEach [a, .Tuple es tk tp] X.env = (false, eval a X.env) :: starEach [.Tuple es tk tp] X.env := by rfl) (hs2 : starEach [.Tuple es tk tp] X.env = [(false, eval (.Tuple es tk tp) X.env)] := by rfl) (hpl : (backTo pos (starEach [.Tuple es tk tp] X.env)).any (·.1) = false := by rfl) :
    PE X (.Call (.Name x p) [a, .Tuple es tk tp] [] pos) (tE X.K W ow (un (oisi cs ts) ma)) := by
  subst hx
  refine PE.of (pe_callB call_isiT hg hm (by decide +kernel) (pa_cons ha (pa_cons (pe_tup hb.pa) pa_nil hs2) hs) (by decide) (by decide) hs hpl) fun σ H Q ⟨A, H0, O, en, R, q⟩ => ⟨A, H0, O, en, R, (Out.bind q).good fun d q1 v H1 s1 r1 => ?_⟩
  cases e : oisi cs ts d with
  | exc _ _ => exact absurd e (n_isi _ _ _)
  | stuck =>
    rw [e] at q1
    exact q1.elim
  | ok r =>
    rw [e] at q1
    obtain ⟨h1, h2, rfl⟩ := isi_ok e
    refine hb.run ⟨by rw [List.length_map]; exact Nat.le_trans hz (by decide), fun p hp => ?_⟩
    exact ⟨v, p, ts.map (tyV X.K), tyU X.K (tyOf d), ts.map (tyU X.K), _, rfl, upd_same, ty_all _ _, tyx_of F (r1.move (new_same hp)) h1, kit_any F h1 h2, q1 _ _ (s1.trans (new_same hp)) rep_bl⟩
/-! ### attributes -/
theorem n_attr {cs : List String} {f : String} : NoEx1 (oattr cs f) := fun x c fs => by
  have ho : ∀ o : Option D, opt o ≠ .exc c fs := fun o => by cases o <;> exact fun z => nomatch z
  cases x <;> simp only [oattr] <;> first | (split <;> first | exact ho _ | exact fun z => nomatch z) | exact fun z => nomatch z
theorem x_attr {cs : List String} {f : String} (F : ∀ c ∈ cs, Cls X.K (ca X.K c) ∧ NoAttr X.K (ca X.K c) (Str.ofString f)) (ha : PE X a (tW X.K W ow ma))
    (hb : attributeBase a (Str.ofString f) X.env (eval a X.env) = eval a X.env := by rfl) : PE X (.Attribute a (Str.ofString f) pos) (tE X.K W ow (un (oattr cs f) ma)) :=
  PE.of (pe_fld ha hb) fun σ H Q ⟨A, H0, O, en, R, q⟩ => ⟨A, H0, O, en, R, (Out.bind q).good fun d q1 v H1 s1 r1 => by
    cases d with
    | ins c fs =>
      simp only [oattr] at q1
      split at q1
      · rename_i hc
        obtain ⟨h1, h2⟩ := F c (by simpa using hc)
        obtain ⟨p, dx, fvs, rfl, q2, r2⟩ := r1
        have lk := r2.look (f := f)
        cases hl : fs.lookup f with
        | none =>
          rw [hl] at q1
          exact q1.elim
        | some d' =>
          rw [hl] at q1 lk
          obtain ⟨v', e1, r'⟩ := lk
          exact ⟨p, _, dx, fvs, v', rfl, q2, h1, h2, e1, q1 v' H1 s1 r'⟩
      · exact q1.elim
    | _ => exact q1.elim⟩
/-! ### slices -/
/-- a part of a slice -/
def tO (K : Frag) (W : WX) (ow : Ow) (m : Option EM) : TO := fun σ H Q => ∃ A H0 O e, ER K A H0 ow O σ H e ∧
  Out (slc.bnd m e) (fun o => ∀ H', Same H H' → Q o H') (badE K W A O σ H)
theorem o_none : PO X none (tO X.K W ow none) := ⟨fun pins s σ H Q I ⟨A, H0, O, en, R, q⟩ => po_none.run pins s σ H Q I (q H (Same.refl H))⟩
theorem o_some (h : PE X e (tE X.K W ow m)) : PO X (some e) (tO X.K W ow (some m)) := ⟨fun pins s σ H Q I ⟨A, H0, O, en, R, q⟩ => (po_some h).run pins s σ H Q I ⟨A, H0, O, en, R, (Out.bind q).good fun d q1 v H1 s1 r1 => by
  cases d with
  | int i => exact ⟨i, r1, q1 H1 s1⟩
  | _ => exact q1.elim⟩⟩
theorem x_slc {lo hi : Option Expr} {ml mh : Option EM} {p2 : Pos} (ha : PE X a (tW X.K W ow ma)) (hl : PO X lo (tO X.K W ow ml)) (hh : PO X hi (tO X.K W ow mh)) : PE X (.Subscript a (.Slice lo hi none p2) pos) (tE X.K W ow (slc ma ml mh)) :=
  PE.of (pe_slice y_slc ha hl hh) fun σ H Q ⟨A, H0, O, en, R, q⟩ => ⟨A, H0, O, en, R, (Out.bind q).good fun d q1 v H1 s1 r1 => ⟨A, H0, O, en, R.to s1, ((Out.bind q1).to s1).good fun i q2 H2 s2 => ⟨A, H0, O, en, (R.to s1).to s2, ((Out.bind q2).to (s1.trans s2)).good fun j q3 H3 s3 => by
    cases e : oslc d i j with
    | ok z =>
      rw [e] at q3
      exact ⟨_, d, z, r1.move (s2.trans s3), (((R.to s1).to s2).to s3).there, e, fun v' H' s' r' => q3 v' H' (((s1.trans s2).trans s3).trans s') r'⟩
    | exc c fs =>
      exfalso
      cases d <;> simp only [oslc, reduceCtorEq] at e
      split at e <;> cases e
    | stuck =>
      rw [e] at q3
      exact q3.elim⟩⟩⟩
theorem n_rev : NoEx1 orev := fun x c fs => by cases x <;> exact fun z => nomatch z
theorem x_rev {k : Nat} {p1 p2 p3 : Pos} (ha : PE X a (tW X.K W ow ma)) : PE X (.Subscript a (.Slice none none (some (.UnaryOp .USub (.Constant (.int 1) k p1) p2)) p3) pos) (tE X.K W ow (un orev ma)) :=
  PE.of (pe_revL ha) fun σ H Q ⟨A, H0, O, en, R, q⟩ => ⟨A, H0, O, en, R, (Out.bind q).good fun d q1 v H1 s1 r1 => by
    cases d with
    | lst xs =>
      obtain ⟨p, vs, rfl, h, r⟩ := r1
      exact ⟨p, vs, rfl, .inl h, fun p' hp => q1 _ _ (s1.trans (new_same hp)) (new_lst (R.to s1).there r.reverse hp)⟩
    | _ => exact q1.elim⟩
/-! ### built-in calls -/
def c1 (K : Frag) (f : D → Res D) : List V → Hp → VK → Prop := fun vs H Q => ∃ x, vs = [x] ∧ r1 K f x H Q
def c2 (K : Frag) (f : D → D → Res D) : List V → Hp → VK → Prop := fun vs H Q => ∃ x y, vs = [x, y] ∧ r2 K f x y H Q
theorem cimp {f : Value} {r r' : List V → Hp → VK → Prop} (h : CallR X f r) (k : ∀ x H Q, r' x H Q → r x H Q) : CallR X f r' := fun pins s σ H xs us Q I rx q => h pins s σ H xs us Q I rx (k xs H Q q)
theorem x_b1 {id : String} {x : Str} {p : Pos} {f : D → Res D} (hc : CallR X (.builtin id) (c1 X.K f)) (hf : NoEx1 f) (hg : Gl X x) (hm : X.mg x = none) (hv : bootBuiltins x = some (.builtin id)) (ha : PE X a (tW X.K W ow ma)) (hn : x ≠ "__name__" := by decide) (hdb : (x == ("__debug__" : Str)) = false := by decide)
    (hs : starEach [a] X.env = [(false, eval a X.env)] := by rfl) : PE X (.Call (.Name x p) [a] [] pos) (tE X.K W ow (un f ma)) :=
  PE.of (pe_callB hc hg hm hv (pa_cons ha pa_nil hs) hn hdb hs (by rfl)) fun σ H Q h => by
    obtain ⟨A, H0, O, en, R, q⟩ := one_of hf h
    exact ⟨A, H0, O, en, R, q.good fun d k v H' s r => ⟨v, rfl, k v H' s r⟩⟩
theorem x_t1 {id : String} {x : Str} {p : Pos} {f : D → Res D} (hc : CallR X (.type id) (c1 X.K f)) (hf : NoEx1 f) (hg : Gl X x) (hm : X.mg x = none) (hv : bootBuiltins x = some (.type id)) (ha : PE X a (tW X.K W ow ma)) (hn : x ≠ "__name__" := by decide) (hdb : (x == ("__debug__" : Str)) = false := by decide)
    (hs : starEach [a] X.env = [(false, eval a X.env)] := by rfl) : PE X (.Call (.Name x p) [a] [] pos) (tE X.K W ow (un f ma)) :=
  PE.of (pe_callTy hc hg hm hv (pa_cons ha pa_nil hs) hn hdb hs (by rfl)) fun σ H Q h => by
    obtain ⟨A, H0, O, en, R, q⟩ := one_of hf h
    exact ⟨A, H0, O, en, R, q.good fun d k v H' s r => ⟨v, rfl, k v H' s r⟩⟩
theorem x_b2 {id : String} {x : Str} {p : Pos} {f : D → D → Res D} (hc : CallR X (.builtin id) (c2 X.K f)) (hf : NoEx2 f) (hg : Gl X x) (hm : X.mg x = none) (hv : bootBuiltins x = some (.builtin id)) (ha : PE X a (tW X.K W ow ma)) (hb : PE X b (tW X.K W ow mb)) (hn : x ≠ "__name__" := by decide) (hdb : (x == ("__debug__" : Str)) = false := by decide)
    (hs : starEach [a, b] X.env = (false, eval a X.env) :: starEach [b] X.env := by rfl) (hs2 : starEach [b] X.env = [(false, eval b X.env)] := by rfl) (hpl : (backTo pos (starEach [b] X.env)).any (·.1) = false := by rfl) : PE X (.Call (.Name x p) [a, b] [] pos) (tE X.K W ow (bin f ma mb)) :=
  PE.of (pe_callB hc hg hm hv (pa_cons ha (pa_cons hb pa_nil hs2) hs) hn hdb hs hpl) fun σ H Q h => by
    obtain ⟨A, H0, O, en, R, q⟩ := two_of hf h
    refine ⟨A, H0, O, en, R, q.good fun d k v H' s r => ?_⟩
    obtain ⟨A2, H02, O2, en2, R2, q2⟩ := k v H' s r
    exact ⟨A2, H02, O2, en2, R2, q2.good fun d2 k2 v2 H2 s2 r2' => ⟨v, v2, rfl, k2 v2 H2 s2 r2'⟩⟩
theorem v_len : CallR X (.builtin "len") (c1 X.K blen) := cimp call_len fun xs H Q ⟨x, e0, A, d1, d, h1, _, e, k⟩ => by
  subst e0
  cases d1 with
  | str s =>
    simp only [blen] at e
    split at e
    · rename_i hz
      simp only [Res.ok.injEq] at e
      subst e
      have h' : x = .str (Str.ofString s) := h1
      subst h'
      exact ⟨_, s.length, rfl, ⟨by rw [str_len]; exact hz, (str_len s).symm⟩, k _ H (Same.refl H) (flat_rep rfl _ _)⟩
    · cases e
  | tup xs =>
    simp only [blen, Res.ok.injEq] at e
    subst e
    obtain ⟨a, vs, rfl, q, r⟩ := (by simpa only [RepW, Rep] using h1 : ∃ a vs, x = .ref a ∧ SqT X.K H a vs ∧ RepL X.K A H xs vs)
    refine ⟨_, xs.length, rfl, .inr ⟨vs, q, r.length⟩, k _ H (Same.refl H) (flat_rep rfl _ _)⟩
  | lst xs =>
    simp only [blen, Res.ok.injEq] at e
    subst e
    obtain ⟨a, vs, rfl, q, r⟩ := h1
    refine ⟨_, xs.length, rfl, .inl ⟨vs, .inl q, r.length⟩, k _ H (Same.refl H) (flat_rep rfl _ _)⟩
  | dic kvs => simp only [RepW, Rep] at h1
  | _ => simp [blen] at e
theorem n_len : NoEx1 blen := fun x c fs => by
  cases x <;> simp only [blen] <;> first | (split <;> exact fun z => nomatch z) | exact fun z => nomatch z
theorem v_int : CallR X (.type "int") (c1 X.K bint) := cimp call_int1 fun xs H Q ⟨x, e0, A, d1, d, h1, _, e, k⟩ => by
  subst e0
  cases d1 with
  | int i =>
    simp only [bint, Res.ok.injEq] at e
    subst e
    have h' : x = .int i := h1
    subst h'
    exact .inl ⟨i, rfl, k _ H (Same.refl H) (flat_rep rfl _ _)⟩
  | bl b =>
    simp only [bint, Res.ok.injEq] at e
    subst e
    have h' : x = .bl b := h1
    subst h'
    exact .inr ⟨b, rfl, k _ H (Same.refl H) (flat_rep rfl _ _)⟩
  | _ => simp [bint] at e
theorem n_int : NoEx1 bint := fun x c fs => by cases x <;> exact fun z => nomatch z
theorem v_tuple : CallR X (.type "tuple") (c1 X.K btuple) := cimp call_tuple_of fun xs H Q ⟨x, e0, A, d1, d, h1, ha, e, k⟩ => by
  subst e0
  cases d1 with
  | lst xs =>
    simp only [btuple, Res.ok.injEq] at e
    subst e
    obtain ⟨a, vs, rfl, q, r⟩ := h1
    exact ⟨a, vs, rfl, .inl ⟨.inl q, fun l hl => k _ _ (new_same hl) (new_tup r hl)⟩⟩
  | tup xs =>
    simp only [btuple, Res.ok.injEq] at e
    subst e
    obtain ⟨a, vs, rfl, q, r⟩ := (by simpa only [RepW, Rep] using h1 : ∃ a vs, x = .ref a ∧ SqT X.K H a vs ∧ RepL X.K A H xs vs)
    exact ⟨a, vs, rfl, .inr ⟨q, k _ H (Same.refl H) h1⟩⟩
  | _ => simp [btuple] at e
theorem n_tuple : NoEx1 btuple := fun x c fs => by cases x <;> exact fun z => nomatch z
theorem v_list : CallR X (.type "list") (c1 X.K blist) := cimp call_list_of fun xs H Q ⟨x, e0, A, d1, d, h1, ha, e, k⟩ => by
  subst e0
  cases d1 with
  | lst xs =>
    simp only [blist, Res.ok.injEq] at e
    subst e
    obtain ⟨a, vs, rfl, q, r⟩ := h1
    exact ⟨a, vs, rfl, .inl (.inl q), fun l hl => k _ _ (new_same hl) (new_lst ha r hl)⟩
  | tup xs =>
    simp only [blist, Res.ok.injEq] at e
    subst e
    obtain ⟨a, vs, rfl, q, r⟩ := (by simpa only [RepW, Rep] using h1 : ∃ a vs, x = .ref a ∧ SqT X.K H a vs ∧ RepL X.K A H xs vs)
    exact ⟨a, vs, rfl, .inr q, fun l hl => k _ _ (new_same hl) (new_lst ha r hl)⟩
  | _ => simp [blist] at e
theorem n_list : NoEx1 blist := fun x c fs => by cases x <;> exact fun z => nomatch z
theorem ints_of {K : Frag} {A : AS} {H : Hp} : ∀ {ds : List D} {vs : List V} {is : List Int}, RepL K A H ds vs → intsOf ds = some is → vs = is.map V.int
  | [], vs, is, h, e => by
    simp only [RepL] at h
    simp only [intsOf, Option.some.injEq] at e
    subst h e
    rfl
  | d :: ds, vs, is, h, e => by
    simp only [RepL] at h
    obtain ⟨v, r, rfl, h1, h2⟩ := h
    cases d with
    | int i =>
      simp only [intsOf] at e
      cases q : intsOf ds with
      | none => rw [q] at e; cases e
      | some js =>
        rw [q] at e
        have e2 : i :: js = is := Option.some.inj e
        subst e2
        have h1' : v = .int i := h1
        rw [h1', ints_of h2 q]
        rfl
    | _ => simp [intsOf] at e
theorem bools_of {K : Frag} {A : AS} {H : Hp} : ∀ {ds : List D} {vs : List V} {is : List Bool}, RepL K A H ds vs → boolsOf ds = some is → vs = is.map V.bl
  | [], vs, is, h, e => by
    simp only [RepL] at h
    simp only [boolsOf, Option.some.injEq] at e
    subst h e
    rfl
  | d :: ds, vs, is, h, e => by
    simp only [RepL] at h
    obtain ⟨v, r, rfl, h1, h2⟩ := h
    cases d with
    | bl i =>
      simp only [boolsOf] at e
      cases q : boolsOf ds with
      | none => rw [q] at e; cases e
      | some js =>
        rw [q] at e
        have e2 : i :: js = is := Option.some.inj e
        subst e2
        have h1' : v = .bl i := h1
        rw [h1', bools_of h2 q]
        rfl
    | _ => simp [boolsOf] at e
theorem v_sum (hc : X.calm = true) : CallR X (.builtin "sum") (c1 X.K bsum) := cimp (cr_sum hc) fun xs H Q ⟨x, e0, A, d1, d, h1, ha, e, k⟩ => by
  subst e0
  cases d1 with
  | lst xs =>
    simp only [bsum] at e
    split at e
    · rename_i is hi
      simp only [Res.ok.injEq] at e
      subst e
      obtain ⟨a, vs, rfl, q, r⟩ := h1
      have e1 := ints_of r hi
      subst e1
      exact ⟨a, is, rfl, .inl q, k _ H (Same.refl H) (flat_rep rfl _ _)⟩
    · cases e
  | _ => simp [bsum] at e
theorem v_all (hc : X.calm = true) : CallR X (.builtin "all") (c1 X.K ball) := cimp (cr_all hc) fun xs H Q ⟨x, e0, A, d1, d, h1, ha, e, k⟩ => by
  subst e0
  cases d1 with
  | lst xs =>
    simp only [ball] at e
    split at e
    · rename_i is hi
      simp only [Res.ok.injEq] at e
      subst e
      obtain ⟨a, vs, rfl, q, r⟩ := h1
      have e1 := bools_of r hi
      subst e1
      exact ⟨a, is, rfl, .inl q, k _ H (Same.refl H) (flat_rep rfl _ _)⟩
    · cases e
  | _ => simp [ball] at e
theorem v_any (hc : X.calm = true) : CallR X (.builtin "any") (c1 X.K bany) := cimp (cr_any hc) fun xs H Q ⟨x, e0, A, d1, d, h1, ha, e, k⟩ => by
  subst e0
  cases d1 with
  | lst xs =>
    simp only [bany] at e
    split at e
    · rename_i is hi
      simp only [Res.ok.injEq] at e
      subst e
      obtain ⟨a, vs, rfl, q, r⟩ := h1
      have e1 := bools_of r hi
      subst e1
      exact ⟨a, is, rfl, .inl q, k _ H (Same.refl H) (flat_rep rfl _ _)⟩
    · cases e
  | _ => simp [bany] at e
theorem n_sum : NoEx1 bsum := fun x c fs => by
  cases x <;> simp only [bsum] <;> first | (split <;> exact fun z => nomatch z) | exact fun z => nomatch z
theorem n_all : NoEx1 ball := fun x c fs => by
  cases x <;> simp only [ball] <;> first | (split <;> exact fun z => nomatch z) | exact fun z => nomatch z
theorem n_any : NoEx1 bany := fun x c fs => by
  cases x <;> simp only [bany] <;> first | (split <;> exact fun z => nomatch z) | exact fun z => nomatch z
theorem v_max2 (hc : X.calm = true) : CallR X (.builtin "max") (c2 X.K bmax2) := cimp (call_max2 hc) fun xs H Q ⟨x, y, e0, A, d1, d2, d, h1, h2, ha, e, k⟩ => by
  subst e0
  cases d1 <;> cases d2 <;> simp only [bmax2, Res.ok.injEq, reduceCtorEq] at e
  subst e
  rename_i i j
  exact ⟨i, j, by rw [rep_int h1, rep_int h2], k _ H (Same.refl H) (flat_rep rfl _ _)⟩
theorem v_min2 (hc : X.calm = true) : CallR X (.builtin "min") (c2 X.K bmin2) := cimp (call_min2 hc) fun xs H Q ⟨x, y, e0, A, d1, d2, d, h1, h2, ha, e, k⟩ => by
  subst e0
  cases d1 <;> cases d2 <;> simp only [bmin2, Res.ok.injEq, reduceCtorEq] at e
  subst e
  rename_i i j
  exact ⟨i, j, by rw [rep_int h1, rep_int h2], k _ H (Same.refl H) (flat_rep rfl _ _)⟩
theorem v_abs : CallR X (.builtin "abs") (c1 X.K babs) := cimp call_abs fun xs H Q ⟨x, e0, A, d1, d, h1, ha, e, k⟩ => by
  subst e0
  cases d1 <;> simp only [babs, Res.ok.injEq, reduceCtorEq] at e
  subst e
  rename_i i
  exact ⟨i, by rw [rep_int h1], k _ H (Same.refl H) (flat_rep rfl _ _)⟩
theorem n_max2 : NoEx2 bmax2 := fun x y c fs => by cases x <;> cases y <;> exact fun z => nomatch z
theorem n_min2 : NoEx2 bmin2 := fun x y c fs => by cases x <;> cases y <;> exact fun z => nomatch z
theorem n_abs : NoEx1 babs := fun x c fs => by cases x <;> exact fun z => nomatch z
theorem n_bits : NoEx1 bbits := fun x c fs => by cases x <;> exact fun z => nomatch z
theorem x_bits {apos : Pos} (ha : PE X a (tW X.K W ow ma)) (hbase : attributeBase a "bit_length" X.env (eval a X.env) = eval a X.env := by rfl) (hline : (apos.endLine == pos.line) = true := by rfl) : PE X (.Call (.Attribute a "bit_length" apos) [] [] pos) (tE X.K W ow (un bbits ma)) :=
  PE.of (pe_bits ha hbase hline) fun σ H Q ⟨A, H0, O, en, R, q⟩ => ⟨A, H0, O, en, R, (Out.bind q).good fun d q1 v H1 s1 r1 => by
    cases d with
    | int i => exact ⟨i, r1, q1 _ H1 s1 (flat_rep rfl _ _)⟩
    | _ => exact q1.elim⟩
/-- list(x) as a new list -/
theorem f_list {x : Str} {p : Pos} (hx : x = "list") (hg : Gl X x) (hm : X.mg x = none) (ha : PE X a (tW X.K W ow ma)) (hs : starEach [a] X.env = [(false, eval a X.env)] := by rfl) : PE X (.Call (.Name x p) [a] [] pos) (tF X.K W ow (un blist ma)) := by
  subst hx
  refine PE.of (pe_callTy call_list_of hg hm (by decide +kernel) (pa_cons ha pa_nil hs) (by decide) (by decide) hs (by rfl)) fun σ H Q ⟨A, H0, O, en, R, q⟩ => ⟨A, H0, O, en, R, (Out.bind q).good fun d q1 v H1 s1 r1 => ?_⟩
  cases d with
  | lst xs =>
    obtain ⟨a, vs, rfl, q, r⟩ := r1
    exact ⟨a, vs, rfl, .inl (.inl q), fun l hl => q1 l _ (s1.free hl) (s1.trans (new_same hl)) ⟨vs, upd_same, RepL.move ⟨fun b hb => hb.elim .inl fun z => by subst z; exact .inr hl, fun b o e _ => new_same hl b o e⟩ _ _ r⟩⟩
  | tup xs =>
    obtain ⟨a, vs, rfl, q, r⟩ := (by simpa only [RepW, Rep] using r1 : ∃ a vs, v = .ref a ∧ SqT X.K H1 a vs ∧ RepL X.K (AO A O) H1 xs vs)
    exact ⟨a, vs, rfl, .inr q, fun l hl => q1 l _ (s1.free hl) (s1.trans (new_same hl)) ⟨vs, upd_same, RepL.move ⟨fun b hb => hb.elim .inl fun z => by subst z; exact .inr hl, fun b o e _ => new_same hl b o e⟩ _ _ r⟩⟩
  | _ => exact q1.elim
end
end Py

/-! What is walked, targets, comprehensions. -/
namespace Py
open PySem L2
/-- J gives the data xs, one a turn, as long as the heap moves so -/
def Itm (M : AS → Hp → AS → Hp → Prop) (K : Frag) (A : AS) (J : It) (xs : List D) (H : Hp) : Prop := ∀ i A2 H2, M A H A2 H2 →
  (i < xs.length → J.go i H2 ∧ ∀ x H3, J.yld i H2 x H3 → Same H2 H3 ∧ ∃ d, xs[i]? = some d ∧ Rep K A2 H3 d x) ∧ (i = xs.length → J.stop i H2)
/-- .. as it only grows -/
def Gr (A : AS) (H : Hp) (A' : AS) (H' : Hp) : Prop := (∀ a, A' a → A a ∨ H a = none) ∧ Same H H'
theorem Gr.mv {A A' : AS} {H H' : Hp} (h : Gr A H A' H') : Mv A H A' H' := ⟨h.1, fun a o e _ => h.2 a o e⟩
abbrev MvT := AS → Hp → AS → Hp → Prop
theorem Itm.gr {K : Frag} {A : AS} {J : It} {xs : List D} {H : Hp} (h : Itm Mv K A J xs H) : Itm Gr K A J xs H := fun i A2 H2 m => h i A2 H2 m.mv
def tI (M : MvT) (K : Frag) (W : WX) (ow : Ow) (m : IM) : TI := fun σ H R => ∃ A H0 O e, ER K A H0 ow O σ H e ∧
  Out (m e) (fun xs => ∀ J H', Same H H' → Itm M K (AO A O) J xs H' → R J H') (badE K W A O σ H)
theorem PI.of {X : Cx} {tg iter : Expr} {t t' : TI} (h : PI X tg iter t) (k : ∀ σ H R, t' σ H R → t σ H R) : PI X tg iter t' := ⟨fun pins s σ H R I q => h.run pins s σ H R I (k σ H R q)⟩
section
variable {X : Cx} {W : WX} {A : AS} {H0 : Base} {ow : Ow} {tg a b c e : Expr} {es : List Expr} {m ma mb mc : EM} {am : AM} {pos p : Pos}
/-- a list or a tuple -/
theorem pi_either {l : Expr} {tl : TE} (hl : PE X l tl) : PI X tg l (fun σ H R => tl σ H fun x H1 => ∃ a, x = .ref a ∧ ((∃ xs, SqL X.K H1 a xs ∧ R (Itl X.K a) H1) ∨ ∃ xs, SqT X.K H1 a xs ∧ R (Itt X.K a) H1)) := by
  refine ⟨fun pins s σ H R I h => ?_⟩
  refine thn (hl.run pins s σ H _ I h) fun v s1 ⟨x, H1, I1, r1, q1⟩ => ?_
  obtain ⟨a, e, q⟩ := q1
  subst e
  cases r1
  have fin : ∀ b ∈ [s1.heap.objs.size], FpOk X pins H1 b := fun b hb => by
    have e : b = s1.heap.objs.size := by simpa using hb
    subst e
    exact I1.fpOk (Nat.le_refl _) (I1.hok.fresh (Nat.le_refl _))
  rcases q with ⟨xs, hq, q⟩ | ⟨xs, hq, q⟩
  · obtain ⟨its, rv, p, hz⟩ := I1.list hq
    refine wpAny_pyIter_list p.isList ?_
    exact ⟨s1.heap.objs.size, [s1.heap.objs.size], _, _, H1, rfl, I1.kept (t' := s1.toks) fun b o e => Heap.get?_push_of_some _ e, turn_list a _, ⟨_, Heap.get?_push_size _ rfl, rfl, rfl⟩, fin, q⟩
  · obtain ⟨its, rv, p, hz⟩ := I1.tuple hq
    refine wpAny_pyIter_tuple (show s1.heap.IsTuple a its.toArray from p) ?_
    exact ⟨s1.heap.objs.size, [s1.heap.objs.size], _, _, H1, rfl, I1.kept (t' := s1.toks) fun b o e => Heap.get?_push_of_some _ e, turn_tuple a _, ⟨_, Heap.get?_push_size _ rfl, rfl, rfl⟩, fin, q⟩
theorem itm_tup {K : Frag} {A : AS} {H : Hp} {a : Addr} {ds : List D} {vs : List V} (q : SqT K H a vs) (r : RepL K A H ds vs) : Itm Mv K A (Itt K a) ds H := fun i A2 H2 m => by
  have q2 := SqT.move m q
  have r2 := RepL.move m ds vs r
  refine ⟨fun hi => ?_, fun hi => ⟨vs, q2, by rw [← r.length]; exact Nat.le_of_eq hi.symm⟩⟩
  obtain ⟨v, hv, rv⟩ := r2.get (i := i) (List.getElem?_eq_getElem hi)
  refine ⟨⟨vs, v, q2, hv⟩, fun x H3 ⟨e, k⟩ => ?_⟩
  subst e
  have := k vs q2
  rw [hv] at this
  cases this
  exact ⟨Same.refl _, _, List.getElem?_eq_getElem hi, rv⟩
theorem itm_lst {M : MvT} {K : Frag} {A : AS} {H : Hp} {a : Addr} {ds : List D} {vs : List V} (hM : ∀ A2 H2, M A H A2 H2 → Mv A H A2 H2 ∧ Rd H2 a (.lst vs)) (r : RepL K A H ds vs) : Itm M K A (Itl K a) ds H := fun i A2 H2 m => by
  obtain ⟨mv, rd⟩ := hM A2 H2 m
  have q2 : SqL K H2 a vs := .inl rd
  have r2 := RepL.move mv ds vs r
  refine ⟨fun hi => ?_, fun hi => ⟨vs, q2, by rw [← r.length]; exact Nat.le_of_eq hi.symm⟩⟩
  obtain ⟨v, hv, rv⟩ := r2.get (i := i) (List.getElem?_eq_getElem hi)
  refine ⟨⟨vs, v, q2, hv⟩, fun x H3 ⟨e, k⟩ => ?_⟩
  subst e
  have := k vs q2
  rw [hv] at this
  cases this
  exact ⟨Same.refl _, _, List.getElem?_eq_getElem hi, rv⟩
theorem rd_same {H H2 : Hp} {a : Addr} {u : HO} (s : Same H H2) (h : Rd H a u) : Rd H2 a u := by
  rcases h with h | ⟨o, h⟩
  · exact .inl (s _ _ h)
  · exact .inr ⟨o, s _ _ h⟩
/-- for a for: a clean list or tuple -/
theorem i_seq (ha : PE X a (tE X.K W ow ma)) : PI X tg a (tI Mv X.K W ow (iseq ma)) :=
  PI.of (pi_either ha) fun σ H R' ⟨A, H0, O, en, R, q⟩ => ⟨A, H0, O, en, R, (Out.bind q).good fun d q1 v H1 s1 r1 => by
    cases d with
    | lst xs =>
      obtain ⟨p, vs, rfl, n, h, r⟩ := (by simpa only [Rep] using r1 : ∃ a vs, v = .ref a ∧ ¬ AO A O a ∧ Rd H1 a (.lst vs) ∧ RepL X.K (AO A O) H1 xs vs)
      exact ⟨p, rfl, .inl ⟨vs, .inl h, q1 _ H1 s1 (itm_lst (fun A2 H2 m => ⟨m, (Rd.move m h n).1⟩) r)⟩⟩
    | tup xs =>
      obtain ⟨p, vs, rfl, h, r⟩ := (by simpa only [Rep] using r1 : ∃ a vs, v = .ref a ∧ SqT X.K H1 a vs ∧ RepL X.K (AO A O) H1 xs vs)
      exact ⟨p, rfl, .inr ⟨vs, h, q1 _ H1 s1 (itm_tup h r)⟩⟩
    | _ => exact q1.elim⟩
/-- for a comprehension: also a name's own list -/
theorem i_seqW (ha : PE X a (tW X.K W ow ma)) : PI X tg a (tI Gr X.K W ow (iseq ma)) :=
  PI.of (pi_either ha) fun σ H R' ⟨A, H0, O, en, R, q⟩ => ⟨A, H0, O, en, R, (Out.bind q).good fun d q1 v H1 s1 r1 => by
    cases d with
    | lst xs =>
      obtain ⟨p, vs, rfl, h, r⟩ := r1
      exact ⟨p, rfl, .inl ⟨vs, .inl h, q1 _ H1 s1 (itm_lst (fun A2 H2 m => ⟨m.mv, rd_same m.2 h⟩) r)⟩⟩
    | tup xs =>
      obtain ⟨p, vs, rfl, h, r⟩ := (by simpa only [RepW, Rep] using r1 : ∃ a vs, v = .ref a ∧ SqT X.K H1 a vs ∧ RepL X.K (AO A O) H1 xs vs)
      exact ⟨p, rfl, .inr ⟨vs, h, q1 _ H1 s1 (itm_tup h r).gr⟩⟩
    | _ => exact q1.elim⟩
theorem i_gr {it : IM} (h : PI X tg a (tI Mv X.K W ow it)) : PI X tg a (tI Gr X.K W ow it) :=
  PI.of h fun σ H R' ⟨A, H0, O, en, R, q⟩ => ⟨A, H0, O, en, R, q.good fun xs k J H' s i => k J H' s i.gr⟩
theorem itm_range {K : Frag} {A : AS} {H : Hp} {lo hi : Int} : Itm Mv K A (Itr lo (hi - lo).toNat) (rngL lo hi) H := fun i A2 H2 m => by
  have hl : (rngL lo hi).length = (hi - lo).toNat := by unfold rngL; simp
  rw [hl]
  refine ⟨fun h => ⟨h, fun x H3 ⟨e1, e2⟩ => ?_⟩, fun h => Nat.le_of_eq h.symm⟩
  subst e1 e2
  refine ⟨Same.refl _, .int (lo + (i : Nat)), ?_, rfl⟩
  unfold rngL
  rw [List.getElem?_map, List.getElem?_range h]
  rfl
theorem nb62 {n : Int} (h : n.natAbs < B62) : -(2 : Int) ^ 62 ≤ n ∧ n < 2 ^ 62 := by
  have e : (2 : Int) ^ 62 = 4611686018427387904 := by decide
  rw [e]
  unfold B62 at h
  omega
theorem rng1_of {σ : L2.St} {H : Hp} {R' : It → Hp → Prop} (h : tI Mv X.K W ow (irng1 ma) σ H R') : iRng1 (tCons (tE X.K W ow ma) tNil) σ H R' := by
  obtain ⟨A, H0, O, en, R, q⟩ := h
  refine ⟨A, H0, O, en, R, (Out.bind q).good fun d q1 v H1 s1 r1 => ?_⟩
  cases d with
  | int n =>
    simp only at q1
    split at q1
    · rename_i z
      have r1' : v = .int n := r1
      subst r1'
      refine ⟨n, rfl, (nb62 z).1, (nb62 z).2, ?_⟩
      have k := q1 (Itr 0 (n - 0).toNat) H1 s1 itm_range
      have e : n - 0 = n := Int.sub_zero n
      rw [e] at k
      exact k
    · exact q1.elim
  | _ => exact q1.elim
theorem i_rng1 (hg : Gl X "range") (hm : X.mg "range" = none) (ha : PE X a (tE X.K W ow ma)) (hs : starEach [a] X.env = [(false, eval a X.env)] := by rfl) : PI X tg (.Call (.Name "range" p) [a] [] pos) (tI Mv X.K W ow (irng1 ma)) :=
  PI.of (pi_range1 hg hm (pa_cons ha pa_nil hs) hs) fun σ H R' h => rng1_of h
theorem i_rng2 (hg : Gl X "range") (hm : X.mg "range" = none) (ha : PE X a (tE X.K W ow ma)) (hb : PE X b (tE X.K W ow mb)) (hs : starEach [a, b] X.env = [(false, eval a X.env), (false, eval b X.env)] := by rfl) (hs2 : starEach [b] X.env = [(false, eval b X.env)] := by rfl) :
    PI X tg (.Call (.Name "range" p) [a, b] [] pos) (tI Mv X.K W ow (irng2 ma mb)) :=
  PI.of (pi_range2 hg hm (pa_cons ha (pa_cons hb pa_nil hs2) (by rw [hs, hs2])) hs hs2) fun σ H R' ⟨A, H0, O, en, R, q⟩ => ⟨A, H0, O, en, R, (Out.bind q).good fun d q1 v H1 s1 r1 => ⟨A, H0, O, en, R.to s1, ((Out.bind q1).to s1).good fun d2 q2 v2 H2 s2 r2 => by
    cases d with
    | int i =>
      cases d2 with
      | int n =>
        simp only at q2
        split at q2
        · rename_i z
          have r1' : v = .int i := r1
          have r2' : v2 = .int n := r2
          subst r1' r2'
          exact ⟨i, n, rfl, ⟨(nb62 z.1).1, (nb62 z.1).2, (nb62 z.2).1, (nb62 z.2).2⟩, q2 (Itr i (n - i).toNat) H2 (s1.trans s2) itm_range⟩
        · exact q2.elim
      | _ => exact q2.elim
    | _ => exact q2.elim⟩⟩
/-! ### targets -/
/-- a target: ts are the slots that it sets -/
def tGt (K : Frag) (ow : Ow) (ts : List Nat) (g : GM) : TG := fun v σ H Q => ∃ A H0 O e d e', ER K A H0 ow O σ H e ∧ Rep K (AO A O) H d v ∧ g d e = some e' ∧
  ∀ σ', ER K A H0 ow O σ' H e' → σ'.length = σ.length → (∀ j, j ∉ ts → σ'[j]? = σ[j]?) → Q σ' H
theorem PG.of {tg : Expr} {t t' : TG} (h : PG X tg t) (k : ∀ v σ H Q, t' v σ H Q → t v σ H Q) : PG X tg t' := ⟨fun pins s σ H v u Q I r q => h.run pins s σ H v u Q I r (k v σ H Q q)⟩
theorem g_nm {i : Nat} (h : PG X tg (gName i)) (hi : ow i = false) : PG X tg (tGt X.K ow [i] (gnm i)) :=
  PG.of h fun v σ H Q ⟨A, H0, O, en, d, e', R, r, g, q⟩ => by
    cases g
    exact q _ (R.set hi r) (by simp) fun j hj => by
      have : i ≠ j := fun z => hj (by simp [z])
      rw [List.getElem?_set_ne this]
def tGts (K : Frag) (ow : Ow) (ts : List Nat) (gs : List GM) : TGs := fun vs σ H Q => ∃ A H0 O e ds e', ER K A H0 ow O σ H e ∧ RepL K (AO A O) H ds vs ∧ gtupL gs ds e = some e' ∧
  ∀ σ', ER K A H0 ow O σ' H e' → σ'.length = σ.length → (∀ j, j ∉ ts → σ'[j]? = σ[j]?) → Q σ' H
theorem PGs.of {tg : List Expr} {t t' : TGs} (h : PGs X tg t) (k : ∀ v σ H Q, t' v σ H Q → t v σ H Q) : PGs X tg t' := ⟨fun pins s σ H v u Q I r q => h.run pins s σ H v u Q I r (k v σ H Q q)⟩
theorem gs_nil : PGs X [] (tGts X.K ow [] []) := PGs.of pgs_nil fun vs σ H Q ⟨A, H0, O, en, ds, e', R, r, g, q⟩ => by
  cases ds with
  | nil =>
    simp only [RepL] at r
    subst r
    cases g
    exact ⟨rfl, q σ R rfl fun _ _ => rfl⟩
  | cons d ds => cases g
theorem gs_cons {ts us : List Nat} {g : GM} {gs : List GM} (h1 : PG X e (tGt X.K ow ts g)) (h2 : PGs X es (tGts X.K ow us gs))
    (hs : (assignEach (e :: es) X.env).map (·.2) = assign e X.env :: (assignEach es X.env).map (·.2) := by rfl) : PGs X (e :: es) (tGts X.K ow (ts ++ us) (g :: gs)) :=
  PGs.of (pgs_cons h1 h2 hs) fun vs σ H Q ⟨A, H0, O, en, ds, e', R, r, ge, q⟩ => by
    cases ds with
    | nil => cases ge
    | cons d ds =>
      simp only [RepL] at r
      obtain ⟨v, r', rfl, r1, r2⟩ := r
      simp only [gtupL] at ge
      cases e1 : g d en with
      | none => rw [e1] at ge; cases ge
      | some en1 =>
        rw [e1] at ge
        refine ⟨v, r', rfl, A, H0, O, en, d, en1, R, r1, e1, fun σ1 R1 l1 k1 => ⟨A, H0, O, en1, ds, e', R1, r2, ge, fun σ2 R2 l2 k2 => q σ2 R2 (l2.trans l1) fun j hj => ?_⟩⟩
        rw [k2 j fun z => hj (by simp [z]), k1 j fun z => hj (by simp [z])]
theorem gtupL_len : ∀ {gs : List GM} {ds : List D} {e e' : Env}, gtupL gs ds e = some e' → ds.length = gs.length
  | [], [], _, _, _ => rfl
  | [], _ :: _, _, _, h => by cases h
  | _ :: _, [], _, _, h => by cases h
  | g :: gs, d :: ds, e, e', h => by
    simp only [gtupL] at h
    cases e1 : g d e with
    | none => rw [e1] at h; cases h
    | some e2 =>
      rw [e1] at h
      simp only [List.length_cons]
      rw [gtupL_len (show gtupL gs ds e2 = some e' from h)]
theorem g_tup {ts : List Nat} {gs : List GM} {n k : Nat} (hc : X.calm = true) (h : PGs X es (tGts X.K ow ts gs)) (hn : (assignEach es X.env).length = n := by rfl) (hl : gs.length = n := by rfl)
    (hst : (assignEach es X.env).findIdx? (·.1) = none := by rfl) : PG X (.Tuple es k pos) (tGt X.K ow ts (gtup gs)) :=
  PG.of (pg_tup hc h hn hst) fun v σ H Q ⟨A, H0, O, en, d, e', R, r, g, q⟩ => by
    cases d with
    | tup xs =>
      obtain ⟨a, vs, rfl, h, r⟩ := (by simpa only [Rep] using r : ∃ a vs, v = .ref a ∧ SqT X.K H a vs ∧ RepL X.K (AO A O) H xs vs)
      exact ⟨a, vs, rfl, h, by rw [← r.length, ← hl]; exact gtupL_len g, A, H0, O, en, xs, e', R, r, g, q⟩
    | _ => cases g
/-! ### comprehensions -/
abbrev W0 : WX := fun _ _ _ _ => False
theorem wipe_eq : ∀ {vs : List Nat} {σ σ' : L2.St}, σ'.length = σ.length → (∀ j, j ∉ vs → σ'[j]? = σ[j]?) → L2.wipe σ' vs = L2.wipe σ vs := fun {vs σ σ'} hl h => by
  apply List.ext_getElem?
  intro i
  by_cases hi : i ∈ vs
  · have key : ∀ (us : List Nat) (τ : L2.St), i ∈ us → (L2.wipe τ us)[i]? = if i < τ.length then some none else none := by
      intro us τ
      induction us with
      | nil => intro h; cases h
      | cons u us ih =>
        intro hm
        unfold L2.wipe
        by_cases hu : u = i
        · subst hu
          rw [List.getElem?_set]
          simp only [if_true, L2.wipe_length]
        · rw [List.getElem?_set_ne hu]
          exact ih (by
            rcases List.mem_cons.mp hm with z | z
            · exact absurd z.symm hu
            · exact z)
    rw [key vs σ' hi, key vs σ hi, hl]
  · rw [L2.wipe_out hi, L2.wipe_out hi]
    exact h i hi
theorem compL_drop {f : D → Res (Option D)} {xs : List D} {i : Nat} {ys : List D} (hi : i < xs.length) (h : compL f (xs.drop i) = .ok ys) :
    ∃ o zs, f xs[i] = .ok o ∧ compL f (xs.drop (i + 1)) = .ok zs ∧ ys = match o with | some y => y :: zs | none => zs := by
  rw [List.drop_eq_getElem_cons hi] at h
  simp only [compL] at h
  cases e1 : f xs[i] with
  | ok o =>
    rw [e1, bind_ok] at h
    cases e2 : compL f (xs.drop (i + 1)) with
    | ok zs =>
      rw [e2, bind_ok] at h
      exact ⟨o, zs, rfl, rfl, (Res.ok.inj h).symm⟩
    | exc _ _ => rw [e2] at h; cases h
    | stuck => rw [e2] at h; cases h
  | exc _ _ => rw [e1] at h; cases h
  | stuck => rw [e1] at h; cases h
theorem noexc_of {α β : Type} {r : Res α} {k : α → Res β} {good : β → Prop} {bad : String → List (String × D) → Prop} (h : Out (noexc r >>= k) good bad) : ∃ a, r = .ok a ∧ Out (k a) good bad := by
  cases r with
  | ok a => exact ⟨a, rfl, h⟩
  | exc c fs => exact h.elim
  | stuck => exact h.elim
theorem ER.more {K : Frag} {A A' : AS} {H0 : Base} {ow : Ow} {O : OW} {σ : L2.St} {H H' : Hp} {e : Env} (R : ER K A H0 ow O σ H e) (h0 : ∀ a, A' a → H' a ≠ none) (s : Same H H') (hA : ∀ a, A' a → A a ∨ H a = none) (hA2 : ∀ a, A a → A' a) : ER K A' H0 ow O σ H' e := by
  have mv : Mv (AO A O) H (AO A' O) H' := ⟨fun a ha => by
    rcases ha with ha | ha
    · rcases hA a ha with z | z
      · exact .inl (.inl z)
      · exact .inr z
    · exact .inl (.inr ha), fun a o e _ => s a o e⟩
  refine ⟨R.len, h0, R.same.trans s, fun i d h1 h2 => ?_, fun i d h1 h2 => ?_, fun i a h => ⟨(R.fresh i a h).1, ne_none s (R.fresh i a h).2.1, fun z => (hA a z).elim (R.fresh i a h).2.2 (R.fresh i a h).2.1⟩, R.inj, R.pin, R.exq.heap mv fun da fvs e => s _ _ e⟩
  · obtain ⟨v, q, r⟩ := R.vals i d h1 h2
    exact ⟨v, q, Rep.move mv _ _ r⟩
  · obtain ⟨a, q, q2, r⟩ := R.owns i d h1 h2
    refine ⟨a, q, q2, r.move mv ?_⟩
    cases z : H a with
    | none => exact absurd z (R.fresh i a q).2.1
    | some o => exact s a o z
/-- [elt for tg in iter if test]; vs: the block's own names, ts: those that the target sets -/
theorem lc_of {K : Frag} {it : IM} {vs ts : List Nat} {g : GM} {t : TM} {elt : EM} (hx : ow.x = none) (hts : ∀ j ∈ ts, j ∈ vs) {σ : L2.St} {H : Hp} {Q : VK} (h : tF K W ow (lcE it vs g t elt) σ H Q) :
    tLc (tI Gr K W ow it) (tGt K ow ts g) (tT K W0 ow t) (tE K W0 ow elt) vs σ H Q := by
  obtain ⟨A, H0, O, en, R, q⟩ := h
  refine ⟨A, H0, O, en, R, (Out.bind q).good fun xs q1 J H1 s1 itm D hD => ?_⟩
  obtain ⟨ys, hys, q2⟩ := noexc_of q1
  by_cases hsz : xs.length ≤ SZ
  case neg =>
    unfold chk at q2
    rw [if_neg hsz] at q2
    exact q2.elim
  unfold chk at q2
  rw [if_pos hsz] at q2
  have hsl : SZ = sizeLine := rfl
  have R1 := R.to s1
  have hAD : ¬ AO A O D := fun z => R1.there D z hD
  generalize hA' : (fun b => A b ∨ b = D : AS) = A'
  have hA1 : ∀ b, AO A' O b → AO A O b ∨ b = D := fun b hb => by
    subst hA'
    rcases hb with (hb | hb) | hb
    · exact .inl (.inl hb)
    · exact .inr hb
    · exact .inl (.inr hb)
  have hA2 : ∀ b, AO A O b ∨ b = D → AO A' O b := fun b hb => by
    subst hA'
    rcases hb with (hb | hb) | hb
    · exact .inl (.inl hb)
    · exact .inr hb
    · exact .inl (.inr hb)
  refine ⟨fun i m H' => m = xs.length - i ∧ i ≤ xs.length ∧ ∃ acc vs' zs, H' D = some (.lst vs') ∧ Same H1 H' ∧ acc.length ≤ i ∧ compL (compF vs g t elt en) (xs.drop i) = .ok zs ∧ ys = acc ++ zs ∧ RepL K (AO A' O) H' acc vs', ⟨xs.length, by simp, Nat.zero_le _, [], [], ys, upd_same, new_same hD, Nat.le_refl _, hys, rfl, by simp [RepL]⟩, ?_⟩
  rintro i m H' ⟨rfl, hi, acc, vs', zs, hH', s2, hal, hz, hyz, hr2⟩
  have im := itm i (AO A' O) H' ⟨fun b hb => (hA1 b hb).elim .inl fun z => by rw [z]; exact .inr hD, s2⟩
  by_cases hlt : i < xs.length
  · right
    obtain ⟨hgo, hy⟩ := im.1 hlt
    obtain ⟨o, zs', hf, hz', hzs⟩ := compL_drop hlt hz
    refine ⟨hgo, fun H'' => ∃ acc vs' zs, H'' D = some (.lst vs') ∧ Same H1 H'' ∧ acc.length ≤ i + 1 ∧ compL (compF vs g t elt en) (xs.drop (i + 1)) = .ok zs ∧ ys = acc ++ zs ∧ RepL K (AO A' O) H'' acc vs', fun H'' ⟨a1, a2, a3, h1, h2, h3, h4, h5, h6⟩ => ⟨xs.length - (i + 1), by omega, rfl, by omega, a1, a2, a3, h1, h2, h3, h4, h5, h6⟩, fun x H3 y => ?_⟩
    obtain ⟨s3, d, hd, rd⟩ := hy x H3 y
    have hd' : d = xs[i] := by
      rw [List.getElem?_eq_getElem hlt] at hd
      exact (Option.some.inj hd).symm
    subst hd'
    unfold compF at hf
    cases hg : g xs[i] (wipe en vs) with
    | none => rw [hg] at hf; cases hf
    | some e1 =>
      rw [hg, lift_some, bind_ok] at hf
      have s13 := s2.trans s3
      have hD3 : H3 D ≠ none := by
        rw [s3 _ _ hH']
        exact fun z => nomatch z
      have R3 : ER K A' H0 ow O (L2.wipe σ vs) H3 (wipe en vs) := ((R1.more (A' := A') (H' := H3) (fun b hb => by
        rcases hA1 b (.inl hb) with z | z
        · exact (R1.to s13).there b z
        · rw [z]
          exact hD3) s13 (fun b hb => by
        subst hA'
        rcases hb with hb | hb
        · exact .inl hb
        · rw [hb]
          exact .inr hD) (fun b hb => by
        subst hA'
        exact .inl hb))).wipe vs hx
      refine ⟨A', H0, O, wipe en vs, xs[i], e1, R3, rd, hg, fun σ1 Rσ l1 k1 => ⟨?_, ?_⟩⟩
      · have w1 := wipe_eq (vs := vs) (σ := L2.wipe σ vs) (σ' := σ1) l1 fun j hj => k1 j fun z => hj (hts j z)
        rw [w1]
        exact wipe_eq (L2.wipe_length _ _) fun j hj => L2.wipe_out hj
      · cases ht : t e1 with
        | exc c fs => rw [ht] at hf; cases hf
        | stuck => rw [ht] at hf; cases hf
        | ok bb =>
          rw [ht, bind_ok] at hf
          refine ⟨A', H0, O, e1, Rσ, ?_⟩
          rw [ht]
          show ∀ H', Same H3 H' → _
          intro H4 s4
          cases bb with
          | false =>
            rw [if_neg (by decide)] at hf ⊢
            have ho : o = none := (Res.ok.inj hf).symm
            subst ho
            have s5 : Same H' H4 := s3.trans s4
            exact ⟨acc, vs', zs', s5 _ _ hH', s2.trans s5, by omega, hz', by rw [hyz, hzs], RepL.move (Mv.same s5) _ _ hr2⟩
          | true =>
            rw [if_pos rfl] at hf ⊢
            refine ⟨A', H0, O, e1, Rσ.to s4, ?_⟩
            cases he : elt e1 with
            | exc c fs => rw [he] at hf; cases hf
            | stuck => rw [he] at hf; cases hf
            | ok y' =>
              rw [he, bind_ok] at hf
              have ho : o = some y' := (Res.ok.inj hf).symm
              subst ho
              show ∀ v H', Same H4 H' → _
              intro v5 H5 s5 r5
              have s6 : Same H' H5 := (s3.trans s4).trans s5
              have a1 := s6 _ _ hH'
              have hmv : Mv (AO A' O) H5 (AO A' O) (upd H5 D (.lst (vs' ++ [v5]))) := ⟨fun b hb => .inl hb, fun b o' e1 hb => by
                rw [upd_ne]
                · exact e1
                · intro z
                  subst z
                  rcases hb with hb | hb
                  · exact hb (hA2 _ (.inr rfl))
                  · rw [a1] at e1
                    cases e1
                    exact hb⟩
              have rall := (RepL.move (Mv.same s6) _ _ hr2).append (RepL.one r5)
              have hlen := hr2.length
              refine ⟨vs', a1, by omega, acc ++ [y'], vs' ++ [v5], zs', upd_same, fun b o' e1 => ?_, by simp; omega, hz', by rw [hyz, hzs]; simp, RepL.move hmv _ _ rall⟩
              rw [upd_ne (ne_of_none e1 hD)]
              exact s6 _ _ (s2 _ _ e1)
  · left
    refine ⟨im.2 (by omega), ?_⟩
    have hi2 : i = xs.length := by omega
    subst hi2
    rw [List.drop_length] at hz
    have hzz : zs = [] := (Res.ok.inj hz).symm
    subst hzz
    rw [List.append_nil] at hyz
    subst hyz
    exact q2 D H' (s1.free hD) (s1.trans s2) ⟨vs', hH', RepL.move (Mv.less fun b hb => hA2 b hb) _ _ hr2⟩
end
end Py

/-! Statements. -/
namespace Py
open PySem L2
section
variable {K : Frag} {A : AS} {H0 : Base} {ow : Ow} {O : OW} {σ : L2.St} {H H' : Hp} {e : Env}
/-- every name gives up what it owns -/
theorem ER.freeze (R : ER K A H0 ow O σ H e) : ER K A ⟨H0.hp, none⟩ ow.off (fun _ => none) σ H e := by
  have mv : Mv (AO A O) H (AO A fun _ => none) H := Mv.less fun b hb => hb.elim .inl fun ⟨_, z⟩ => nomatch z
  refine ⟨R.len, R.a0, R.same, fun i d h1 _ => ?_, fun i d h1 h2 => ?_, fun i a h => (nomatch h), fun i j a h => (nomatch h), fun a h => (nomatch h), fun q hq => ?_⟩
  rotate_right
  · obtain ⟨h1, h2, h3, fvs, h4, h5⟩ := R.exq q hq
    refine ⟨?_, h2, h3, fvs, h4, RepF.move mv _ _ h5⟩
    have hq2 : ow.x = some q := hq
    simp only [Ow.off, hq2, beq_self_eq_true]
  rotate_right
  · simp only [Ow.off] at h2
    cases hq : ow.x with
    | none =>
      rw [hq] at h2
      cases h2
    | some q =>
      rw [hq] at h2
      have hi : i = q.i := by simpa using h2
      subst hi
      exact absurd h1 ((R.exq q hq).no d)
  cases hi : ow i with
  | false =>
    obtain ⟨v, q, r⟩ := R.vals i d h1 hi
    exact ⟨v, q, Rep.move mv _ _ r⟩
  | true =>
    obtain ⟨a, q, q2, r⟩ := R.owns i d h1 hi
    refine ⟨.ref a, q2, ?_⟩
    have na : ¬ AO A (fun _ => none) a := fun z => z.elim (R.fresh i a q).2.2 fun ⟨_, w⟩ => nomatch w
    cases d with
    | lst ds =>
      obtain ⟨vs, e1, r1⟩ := r
      simp only [Rep]
      exact ⟨a, vs, rfl, na, .inl e1, RepL.move mv _ _ r1⟩
    | ins c fs =>
      obtain ⟨dx, fvs, e1, r1⟩ := r
      simp only [Rep]
      exact ⟨a, dx, fvs, rfl, na, e1, RepF.move mv _ _ r1⟩
    | _ => exact r.elim
/-- a name's own object changes -/
theorem ER.write (R : ER K A H0 ow O σ H e) {i : Nat} {a : Addr} {o : HO} {d d' : D} (hi : ow i = true) (he : e[i]? = some (some d)) (ha : O i = some a) (h : OwnAt K (AO A O) (upd H a o) a d') : ER K A H0 ow O σ (upd H a o) (e.set i (some d')) := by
  obtain ⟨a1, q1, q2, r⟩ := R.owns i d he hi
  rw [ha] at q1
  cases q1
  have hst : ∀ u, H a = some u → ¬ still u := fun u hu => by
    cases d with
    | lst ds =>
      obtain ⟨vs, e1, _⟩ := r
      rw [e1] at hu
      cases hu
      exact fun z => z
    | ins c fs =>
      obtain ⟨dx, fvs, e1, _⟩ := r
      rw [e1] at hu
      cases hu
      exact fun z => z
    | _ => exact r.elim
  have mv : Mv (AO A O) H (AO A O) (upd H a o) := ⟨fun b hb => .inl hb, fun b u e1 hb => by
    rw [upd_ne]
    · exact e1
    · intro z
      subst z
      rcases hb with hb | hb
      · exact hb (.inr ⟨i, ha⟩)
      · exact hst u e1 hb⟩
  have hne : ∀ {H1 : Hp} {b : Addr}, H1 b ≠ none → (upd H1 a o) b ≠ none := fun {H1 b} h => by
    unfold upd
    split
    · exact fun z => nomatch z
    · exact h
  refine ⟨by simp [R.len], fun b hb => hne (R.a0 b hb), fun b u e1 => ?_, fun j dj h1 h2 => ?_, fun j dj h1 h2 => ?_, fun j b hb => ⟨(R.fresh j b hb).1, hne (R.fresh j b hb).2.1, (R.fresh j b hb).2.2⟩, R.inj, R.pin, R.exq.move mv (fun da fvs e1 => (upd_ne fun z => by
    subst z
    cases d with
    | lst ds =>
      obtain ⟨vs, e2, _⟩ := r
      rw [e2] at e1
      cases e1
    | ins c fs =>
      obtain ⟨dx, fvs, e2, _⟩ := r
      rw [e2] at e1
      cases e1
    | _ => exact r.elim).trans e1) fun j _ n => ⟨rfl, fun dj => by
      have hij : i ≠ j := fun z => by
        subst z
        exact n _ he
      rw [List.getElem?_set_ne hij]
      exact n dj⟩⟩
  · rw [upd_ne]
    · exact R.same b u e1
    · intro z
      rw [z, (R.fresh i a ha).1] at e1
      cases e1
  · have hj : i ≠ j := fun z => by
      subst z
      rw [hi] at h2
      cases h2
    rw [List.getElem?_set_ne hj] at h1
    obtain ⟨v, q, r⟩ := R.vals j dj h1 h2
    exact ⟨v, q, Rep.move mv _ _ r⟩
  · by_cases hj : i = j
    · subst hj
      have hl := (List.getElem?_eq_some_iff.mp he).1
      rw [List.getElem?_set_self hl] at h1
      cases h1
      exact ⟨a, ha, q2, h⟩
    · rw [List.getElem?_set_ne hj] at h1
      obtain ⟨b, p1, p2, p3⟩ := R.owns j dj h1 h2
      have hba : b ≠ a := fun z => by
        subst z
        exact hj (R.inj i j b ha p1)
      exact ⟨b, p1, p2, p3.move mv (upd_ne hba)⟩
/-- a name gets an object of its own -/
theorem ER.take (R : ER K A H0 ow O σ H e) {i : Nat} {a : Addr} {d : D} (s : Same H H') (hxi : ∀ q, ow.x = some q → q.i ≠ i) (hi : ow i = true) (h0 : 0 < i) (hn : H a = none) (h : OwnAt K (fun b => AO A O b ∨ b = a) H' a d) :
    ER K A H0 ow (fun j => if j = i then some a else O j) (σ.set i (some (.ref a))) H' (e.set i (some d)) ∧ Mv (AO A O) H (AO A fun j => if j = i then some a else O j) H' := by
  have sub : ∀ b, AO A (fun j => if j = i then some a else O j) b → AO A O b ∨ b = a := fun b hb => by
    rcases hb with hb | ⟨j, hb⟩
    · exact .inl (.inl hb)
    · by_cases hj : j = i
      · simp only [hj, if_true, Option.some.injEq] at hb
        exact .inr hb.symm
      · simp only [hj, if_false] at hb
        exact .inl (.inr ⟨j, hb⟩)
  have mv : Mv (AO A O) H (AO A fun j => if j = i then some a else O j) H' := ⟨fun b hb => (sub b hb).elim .inl fun z => by rw [z]; exact .inr hn, fun b o e1 _ => s b o e1⟩
  have mv2 : Mv (fun b => AO A O b ∨ b = a) H' (AO A fun j => if j = i then some a else O j) H' := Mv.less sub
  have ha : H' a ≠ none := by
    cases d with
    | lst ds =>
      obtain ⟨vs, e1, _⟩ := h
      rw [e1]
      exact fun z => nomatch z
    | ins c fs =>
      obtain ⟨dx, fvs, e1, _⟩ := h
      rw [e1]
      exact fun z => nomatch z
    | _ => exact h.elim
  refine ⟨⟨by simp [R.len], fun b hb => ne_none s (R.a0 b hb), R.same.trans s, fun j dj h1 h2 => ?_, fun j dj h1 h2 => ?_, fun j b hb => ?_, fun j k b hj hk => ?_, fun b hb => ?_, fun q hq => ?_⟩, mv⟩
  rotate_right
  · obtain ⟨z1, z2, z3, fvs, z4, z5⟩ := R.exq q hq
    have hne : i ≠ q.i := fun z => hxi q hq z.symm
    refine ⟨z1, ?_, ?_, fvs, s _ _ z4, RepF.move mv _ _ z5⟩ <;> rw [List.getElem?_set_ne hne]
    · exact z2
    · exact z3
  · have hj : i ≠ j := fun z => by
      subst z
      rw [hi] at h2
      cases h2
    rw [List.getElem?_set_ne hj] at h1
    obtain ⟨v, q, r⟩ := R.vals j dj h1 h2
    exact ⟨v, by rw [List.getElem?_set_ne hj]; exact q, Rep.move mv _ _ r⟩
  · by_cases hj : i = j
    · subst hj
      have hl : i < e.length := by
        have := (List.getElem?_eq_some_iff.mp h1).1
        simpa using this
      rw [List.getElem?_set_self hl] at h1
      cases h1
      exact ⟨a, by simp, List.getElem?_set_self (by rw [R.len]; exact hl), h.move mv2 rfl⟩
    · rw [List.getElem?_set_ne hj] at h1
      obtain ⟨b, p1, p2, p3⟩ := R.owns j dj h1 h2
      have hj' : ¬ j = i := fun z => hj z.symm
      refine ⟨b, by simp only [hj', if_false]; exact p1, by rw [List.getElem?_set_ne hj]; exact p2, p3.move mv ?_⟩
      cases z : H b with
      | none => exact absurd z (R.fresh j b p1).2.1
      | some o => exact s b o z
  · by_cases hj : j = i
    · simp only [hj, if_true, Option.some.injEq] at hb
      subst hb
      refine ⟨?_, ha, fun z => R.a0 a z hn⟩
      cases z : H0.hp a with
      | none => rfl
      | some o =>
        rw [R.same a o z] at hn
        cases hn
    · simp only [hj, if_false] at hb
      exact ⟨(R.fresh j b hb).1, ne_none s (R.fresh j b hb).2.1, (R.fresh j b hb).2.2⟩
  · have old : ∀ l b, O l = some b → b ≠ a := fun l b hl z => by
      rw [z] at hl
      exact (R.fresh l a hl).2.1 hn
    by_cases h1 : j = i
    · by_cases h2 : k = i
      · rw [h1, h2]
      · simp only [h1, if_true, Option.some.injEq] at hj
        simp only [h2, if_false] at hk
        exact absurd hj.symm (old k b hk)
    · by_cases h2 : k = i
      · simp only [h2, if_true, Option.some.injEq] at hk
        simp only [h1, if_false] at hj
        exact absurd hk.symm (old j b hj)
      · simp only [h1, if_false] at hj
        simp only [h2, if_false] at hk
        exact R.inj j k b hj hk
  · have h1 : ¬ 0 = i := fun z => by omega
    simp only [h1, if_false]
    exact R.pin b hb
end
/-- what is given back; fr: an object that is new and its caller's own -/
def RetOk (fr : Bool) (K : Frag) (A : AS) (H0 : Base) (H' : Hp) (d : D) (v : V) : Prop := match fr with
  | false => Rep K A H' d v
  | true => ∃ a, v = .ref a ∧ H0.hp a = none ∧ OwnAt K (fun b => A b ∨ b = a) H' a d
/-- what must hold behind a statement; oN: who owns behind it, oB: who owns at a break, a continue -/
def EndOk3 (fr : Bool) (K : Frag) (A : AS) (H0 : Base) (oN oB : Ow) (O : OW) (H : Hp) (D : Ends) : Fl → Prop
  | .next e' => ∀ O' σ' H', ER K A H0 oN O' σ' H' e' → Mv (AO A O) H (AO A O') H' → D.nx σ' H'
  | .ret d => ∀ v H', Same H0.hp H' → RetOk fr K A H0 H' d v → D.rt v H'
  | .brk e' => ∀ O' σ' H', ER K A H0 oB O' σ' H' e' → Mv (AO A O) H (AO A O') H' → D.bk σ' H'
  | .cnt e' => ∀ O' σ' H', ER K A H0 oB O' σ' H' e' → Mv (AO A O) H (AO A O') H' → D.ct σ' H'
abbrev EndOk (fr : Bool) (K : Frag) (A : AS) (H0 : Base) (ow : Ow) (O : OW) (H : Hp) (D : Ends) : Fl → Prop := EndOk3 fr K A H0 ow ow O H D
theorem EndOk3.to {fr : Bool} {K : Frag} {A : AS} {H0 : Base} {oN oB : Ow} {O O1 : OW} {H H1 : Hp} {D : Ends} (m : Mv (AO A O) H (AO A O1) H1) : ∀ {f : Fl}, EndOk3 fr K A H0 oN oB O H D f → EndOk3 fr K A H0 oN oB O1 H1 D f
  | .next _, h => fun O' σ' H' R n => h O' σ' H' R (m.trans n)
  | .ret _, h => h
  | .brk _, h => fun O' σ' H' R n => h O' σ' H' R (m.trans n)
  | .cnt _, h => fun O' σ' H' R n => h O' σ' H' R (m.trans n)
def badS (K : Frag) (W : WX) (A : AS) (H0 : Base) (c : String) (fs : List (String × D)) : Prop :=
  ∀ σ' da H' fvs, Same H0.hp H' → H' da = some (.xd fvs) → RepF K A H' fs fvs → W (.ref (ca K c)) (some da) σ' H'
theorem badS.e {K : Frag} {W : WX} {A : AS} {H0 : Base} {ow : Ow} {O : OW} {σ : L2.St} {H : Hp} {e : Env} (R : ER K A H0 ow O σ H e) {c : String} {fs : List (String × D)} (h : badS K W A H0 c fs) : badE K W A O σ H c fs := fun da H' fvs s q r =>
  h σ da H' fvs (R.same.trans s) q (RepF.move (Mv.less fun b => .inl) _ _ r)
def tS3 (fr : Bool) (K : Frag) (W : WX) (ow oN oB : Ow) (m : SM) : TS := fun D σ H => ∃ A H0 O e, ER K A H0 ow O σ H e ∧ Out (m e) (EndOk3 fr K A H0 oN oB O H D) (badS K W A H0)
abbrev tS (fr : Bool) (K : Frag) (W : WX) (ow : Ow) (m : SM) : TS := tS3 fr K W ow ow ow m
section
variable {fr : Bool} {X : Cx} {W : WX} {ow : Ow} {a b c e : Expr} {es : List Expr} {m ma mb mc : EM} {st : Stmt} {rest body orelse : List Stmt} {u v : SM} {t : TM} {pos : Pos}
theorem Out.se {α : Type} {K : Frag} {W : WX} {A : AS} {H0 : Base} {ow : Ow} {O : OW} {σ : L2.St} {H : Hp} {e : Env} (R : ER K A H0 ow O σ H e) {r : Res α} {good : α → Prop} (h : Out r good (badS K W A H0)) : Out r good (badE K W A O σ H) := h.imp (fun _ _ x => x) fun _ _ x => x.e R
/-! ### blocks -/
theorem ss_nil : PSs X [] (tS fr X.K W ow skip) := PSs.of pss_nil fun D σ H ⟨A, H0, O, en, R, q⟩ => q O σ H R Mv.refl
theorem ss_one (h : PS X st (tS fr X.K W ow u)) : PSs X [st] (tS fr X.K W ow u) := pss_one h
theorem ss_cons (h : PS X st (tS fr X.K W ow u)) (k : PSs X rest (tS fr X.K W ow v)) : PSs X (st :: rest) (tS fr X.K W ow (seq u v)) :=
  PSs.of (pss_cons h k) fun D σ H ⟨A, H0, O, en, R, q⟩ => ⟨A, H0, O, en, R, (Out.bind q).good fun f q1 => by
    cases f with
    | next e' => exact fun O' σ' H' R' mv => ⟨A, H0, O', e', R', q1.good fun f q2 => q2.to mv⟩
    | ret d => exact q1
    | brk e' => exact q1
    | cnt e' => exact q1⟩
/-! ### assignments -/
theorem s_set {i : Nat} (h : PS X st (tAsg (tE X.K W ow m) (gName i))) (hi : ow i = false) : PS X st (tS fr X.K W ow (asg (gnm i) m)) :=
  PS.of h fun D σ H ⟨A, H0, O, en, R, q⟩ => ⟨A, H0, O, en, R, ((Out.bind q).se R).good fun d q1 v H1 s1 r1 => q1 O _ H1 ((R.to s1).set hi r1) (Mv.same s1)⟩
theorem s_own {i : Nat} (h : PS X st (tAsg (tF X.K W ow m) (gName i))) (hi : ow i = true) (h0 : 0 < i := by decide) (hx : ow.x = none := by rfl) : PS X st (tS fr X.K W ow (asg (gnm i) m)) :=
  PS.of h fun D σ H ⟨A, H0, O, en, R, q⟩ => ⟨A, H0, O, en, R, ((Out.bind q).se R).good fun d q1 a H1 n s1 r1 => by
    obtain ⟨R2, mv⟩ := R.take s1 (fun q hq => by rw [hx] at hq; cases hq) hi h0 n r1
    exact q1 _ _ H1 R2 mv⟩
theorem s_gen {ts : List Nat} {g : GM} (h : PS X st (tAsg (tE X.K W ow m) (tGt X.K ow ts g))) : PS X st (tS fr X.K W ow (asg g m)) :=
  PS.of h fun D σ H ⟨A, H0, O, en, R, q⟩ => ⟨A, H0, O, en, R, ((Out.bind q).se R).good fun d q1 v H1 s1 r1 => by
    cases hg : g d en with
    | none =>
      rw [hg] at q1
      exact q1.elim
    | some e' =>
      rw [hg] at q1
      exact ⟨A, H0, O, en, d, e', R.to s1, r1, hg, fun σ' R' _ _ => q1 O σ' H1 R' (Mv.same s1)⟩⟩
/-- x += e and its like, x a clean name -/
theorem s_aug {i : Nat} {f : D → D → Res D} {te : TE} {tp : TIp} (h : PS X st (tAug i te tp)) (hte : te = tW X.K W ow m) (hp : ∀ x y H Q, r2 X.K f x y H Q → tp x y H Q) (hf : NoEx2 f) (hi : ow i = false) : PS X st (tS fr X.K W ow (aug i f m)) := by
  subst hte
  refine PS.of h fun D σ H ⟨A, H0, O, en, R, q⟩ => ?_
  have q0 := Out.bind q
  unfold var at q0
  split at q0
  · rename_i d0 hd0
    obtain ⟨v0, e0, r0⟩ := R.vals i d0 hd0 hi
    refine ⟨v0, e0, A, H0, O, en, R, ((Out.bind q0).se R).good fun d1 q1 v1 H1 s1 r1 => hp _ _ _ _ ?_⟩
    have R1 := R.to s1
    cases e : f d0 d1 with
    | exc _ _ => exact absurd e (hf _ _ _ _)
    | stuck =>
      rw [e] at q1
      exact q1.elim
    | ok d =>
      rw [e] at q1
      exact ⟨_, d0, d1, d, RepW.of (Rep.move (Mv.same s1) _ _ r0), r1, R1.there, e, fun v2 H2 s2 r2 => q1 O _ H2 ((R1.to s2).set hi r2) (Mv.same (s1.trans s2))⟩
  · exact q0.elim
theorem s_drop (h : PS X st (tDrop (tE X.K W ow m))) : PS X st (tS fr X.K W ow (drop m)) :=
  PS.of h fun D σ H ⟨A, H0, O, en, R, q⟩ => ⟨A, H0, O, en, R, ((Out.bind q).se R).good fun d q1 v H1 s1 r1 => q1 O σ H1 (R.to s1) (Mv.same s1)⟩
theorem s_ret (h : PE X a (tE X.K W ow.off m)) : PS X (.Return (some a) pos) (tS false X.K W ow (ret m)) :=
  PS.of (ps_ret h) fun D σ H ⟨A, H0, O, en, R, q⟩ => ⟨A, _, _, en, R.freeze, ((Out.bind (show Out (ret m en) _ (badS X.K W A ⟨H0.hp, none⟩) from q)).se R.freeze).good fun d q1 v H1 s1 r1 =>
    q1 v H1 (R.same.trans s1) (Rep.move (Mv.less fun b => .inl) _ _ r1)⟩
theorem s_retN : PS X (.Return none pos) (tS false X.K W ow retN) := PS.of ps_retN fun D σ H ⟨A, H0, O, en, R, q⟩ => q .non H R.same rfl
theorem s_pass : PS X (.Pass pos) (tS fr X.K W ow skip) := PS.of ps_pass fun D σ H ⟨A, H0, O, en, R, q⟩ => q O σ H R Mv.refl
theorem s_brk : PS X (.Break pos) (tS fr X.K W ow brk) := PS.of ps_break fun D σ H ⟨A, H0, O, en, R, q⟩ => q O σ H R Mv.refl
theorem s_cnt : PS X (.Continue pos) (tS fr X.K W ow cnt) := PS.of ps_continue fun D σ H ⟨A, H0, O, en, R, q⟩ => q O σ H R Mv.refl
theorem s_if (hc : PT X a (tT X.K W ow t)) (hb : PSs X body (tS fr X.K W ow u)) (ho : PSs X orelse (tS fr X.K W ow v)) : PS X (.If a body orelse pos) (tS fr X.K W ow (ite t u v)) :=
  PS.of (ps_if hc hb ho) fun D σ H ⟨A, H0, O, en, R, q⟩ => ⟨A, H0, O, en, R, ((Out.bind q).se R).good fun k q1 H1 s1 => by
    cases k with
    | true =>
      rw [if_pos rfl] at q1 ⊢
      exact ⟨A, H0, O, en, R.to s1, q1.good fun f q2 => q2.to (Mv.same s1)⟩
    | false =>
      rw [if_neg (by decide)] at q1 ⊢
      exact ⟨A, H0, O, en, R.to s1, q1.good fun f q2 => q2.to (Mv.same s1)⟩⟩
/-! ### loops -/
theorem for_of {it : IM} {ts : List Nat} {g : GM} {D : Ends} {σ : L2.St} {H : Hp} (h : tS fr X.K W ow (for_ it g u) D σ H) : tFor (tI Mv X.K W ow it) (tGt X.K ow ts g) (tS fr X.K W ow u) D σ H := by
  obtain ⟨A, H0, O, en, R, q⟩ := h
  exact ⟨A, H0, O, en, R, ((Out.bind q).se R).good fun xs q1 J H1 s1 itm => by
    refine ⟨fun i m σ' H' => m = xs.length - i ∧ i ≤ xs.length ∧ ∃ O' e', ER X.K A H0 ow O' σ' H' e' ∧ Mv (AO A O) H1 (AO A O') H' ∧ Out (forL (forB g u) (xs.drop i) e') (EndOk fr X.K A H0 ow O H1 D) (badS X.K W A H0),
      ⟨xs.length, by simp, Nat.zero_le _, O, en, R.to s1, Mv.refl, q1.good fun f q2 => q2.to (Mv.same s1)⟩, ?_⟩
    rintro i m σ' H' ⟨rfl, hi, O', e', R', mv, q2⟩
    have im := itm i (AO A O') H' mv
    by_cases hlt : i < xs.length
    · right
      obtain ⟨hgo, hy⟩ := im.1 hlt
      refine ⟨hgo, fun σ' H' => ∃ O' e', ER X.K A H0 ow O' σ' H' e' ∧ Mv (AO A O) H1 (AO A O') H' ∧ Out (forL (forB g u) (xs.drop (i + 1)) e') (EndOk fr X.K A H0 ow O H1 D) (badS X.K W A H0), fun σ2 H2 ⟨a1, a2, a3⟩ => ⟨xs.length - (i + 1), by omega, rfl, by omega, a1, a2, a3⟩, fun x H3 y => ?_⟩
      obtain ⟨s3, d, hd, rd⟩ := hy x H3 y
      have hd' : d = xs[i] := by
        rw [List.getElem?_eq_getElem hlt] at hd
        exact (Option.some.inj hd).symm
      subst hd'
      rw [List.drop_eq_getElem_cons hlt] at q2
      simp only [forL, forB] at q2
      cases hg' : g xs[i] e' with
      | none =>
        rw [hg'] at q2
        exact q2.elim
      | some e2 =>
        rw [hg', lift_some, bind_ok] at q2
        have mv3 : Mv (AO A O) H1 (AO A O') H3 := mv.trans (Mv.same s3)
        refine ⟨A, H0, O', e', xs[i], e2, R'.to s3, rd, hg', fun σ2 R2 _ _ => ⟨A, H0, O', e2, R2, ?_⟩⟩
        cases hu : u e2 with
        | exc c fs =>
          rw [hu] at q2
          exact q2
        | stuck =>
          rw [hu] at q2
          exact q2.elim
        | ok f =>
          rw [hu] at q2
          cases f with
          | next e3 => exact fun O3 σ3 H4 R3 m3 => ⟨O3, e3, R3, mv3.trans m3, q2⟩
          | cnt e3 => exact fun O3 σ3 H4 R3 m3 => ⟨O3, e3, R3, mv3.trans m3, q2⟩
          | brk e3 =>
            have q3 : EndOk fr X.K A H0 ow O H1 D (.next e3) := q2
            exact fun O3 σ3 H4 R3 m3 => q3 O3 σ3 H4 R3 (mv3.trans m3)
          | ret d => exact q2
    · left
      have hi2 : i = xs.length := by omega
      subst hi2
      rw [List.drop_length] at q2
      have q3 : EndOk fr X.K A H0 ow O H1 D (.next e') := q2
      exact ⟨im.2 rfl, q3 O' σ' H' R' mv⟩⟩
theorem s_for {tg iter : Expr} {it : IM} {ts : List Nat} {g : GM} (hp : PassesOwn (model X.prog X.w) X.A X.env X.xe) (hc : X.calm = true) (hi : PI X tg iter (tI Mv X.K W ow it)) (hg : PG X tg (tGt X.K ow ts g)) (hb : PSs X body (tS fr X.K W ow u))
    (hs : ∀ x, foldedSetIterable iter X.env x = pure x := by intro _; rfl) : PS X (.For tg iter body [] pos) (tS fr X.K W ow (for_ it g u)) :=
  PS.of (ps_for hp hc hi hg hb hs) fun D σ H h => for_of h
theorem s_while (hp : PassesOwn (model X.prog X.w) X.A X.env X.xe) (hc : PT X a (tT X.K W ow t)) (hb : PSs X body (tS fr X.K W ow u)) : PS X (.While a body [] pos) (tS fr X.K W ow (while_ t u)) :=
  PS.of (ps_while hp hc hb) fun D σ H ⟨A, H0, O, en, R, q⟩ => by
    refine ⟨fun k σ' H' => ∃ O' e', ER X.K A H0 ow O' σ' H' e' ∧ Mv (AO A O) H (AO A O') H' ∧ Out (whileL t u k e') (EndOk fr X.K A H0 ow O H D) (badS X.K W A H0), ⟨FUEL, O, en, R, Mv.refl, q⟩, ?_⟩
    rintro k σ' H' ⟨O', e', R', mv, q1⟩
    cases k with
    | zero => exact q1.elim
    | succ k =>
      refine ⟨A, H0, O', e', R', ((Out.bind q1).se R').good fun bb q2 H2 s2 => ?_⟩
      have R2 := R'.to s2
      have mv2 := mv.trans (Mv.same (A := AO A O') s2)
      cases bb with
      | false =>
        rw [if_neg (by decide)] at q2
        dsimp only
        rw [if_neg (by decide)]
        have q3 : EndOk fr X.K A H0 ow O H D (.next e') := q2
        exact q3 O' σ' H2 R2 mv2
      | true =>
        rw [if_pos rfl] at q2
        dsimp only
        rw [if_pos rfl]
        refine ⟨fun σ' H' => ∃ O' e', ER X.K A H0 ow O' σ' H' e' ∧ Mv (AO A O) H (AO A O') H' ∧ Out (whileL t u k e') (EndOk fr X.K A H0 ow O H D) (badS X.K W A H0), fun σ3 H3 a => ⟨k, Nat.lt_succ_self _, a⟩, A, H0, O', e', R2, ?_⟩
        cases hu : u e' with
        | exc c fs =>
          rw [hu] at q2
          exact q2
        | stuck =>
          rw [hu] at q2
          exact q2.elim
        | ok f =>
          rw [hu] at q2
          cases f with
          | next e3 => exact fun O3 σ3 H4 R3 m3 => ⟨O3, e3, R3, mv2.trans m3, q2⟩
          | cnt e3 => exact fun O3 σ3 H4 R3 m3 => ⟨O3, e3, R3, mv2.trans m3, q2⟩
          | brk e3 =>
            have q3 : EndOk fr X.K A H0 ow O H D (.next e3) := q2
            exact fun O3 σ3 H4 R3 m3 => q3 O3 σ3 H4 R3 (mv2.trans m3)
          | ret d => exact q2
/-! ### a name's own list, object -/
theorem var_ok {α : Type} {i : Nat} {en : Env} {k : D → Res α} {good : α → Prop} {bad : String → List (String × D) → Prop} (h : Out (var i en >>= k) good bad) : ∃ d, en[i]? = some (some d) ∧ Out (k d) good bad := by
  unfold var at h
  split at h
  · rename_i d hd
    exact ⟨d, hd, h⟩
  · exact h.elim
theorem sqL {K : Frag} {H : Hp} {a : Addr} {vs : List V} (h : H a = some (.lst vs)) : L2.tyV K "list" (.ref a) H := .inl ⟨rfl, vs, .inl (.inl h)⟩
theorem own_mv {K : Frag} {A : AS} {H0 : Base} {ow : Ow} {O : OW} {σ : L2.St} {H : Hp} {en : Env} (R : ER K A H0 ow O σ H en) {i : Nat} {a : Addr} (p1 : O i = some a) {u o : HO} (e : H a = some u) (hs : ¬ still u) : Mv (AO A O) H (AO A O) (upd H a o) :=
  ⟨fun b hb => .inl hb, fun b o e3 hb => by
    rw [upd_ne]
    · exact e3
    · intro z
      subst z
      rcases hb with hb | hb
      · exact hb (.inr ⟨i, p1⟩)
      · rw [e] at e3
        cases e3
        exact hs hb⟩
/-- x.append(e) -/
theorem s_app {i : Nat} (h : PS X st (tDrop (tBM X.K "list" rAppend (tVar i) (tCons (tE X.K W ow m) tNil)))) (hi : ow i = true) : PS X st (tS fr X.K W ow (app i m)) :=
  PS.of h fun D σ H ⟨A, H0, O, en, R, q⟩ => by
    obtain ⟨l, hl, q1⟩ := var_ok q
    obtain ⟨a, p1, p2, p3⟩ := R.owns i l hl hi
    cases l with
    | lst ds =>
      obtain ⟨vs, e1, r1⟩ := p3
      refine ⟨.ref a, p2, sqL e1, A, H0, O, en, R, ((Out.bind q1).se R).good fun d q2 v H1 s1 r2 => ?_⟩
      split at q2
      · rename_i hz
        have e2 := s1 _ _ e1
        refine ⟨a, vs, v, rfl, rfl, e2, by rw [← r1.length]; exact hz, ?_⟩
        have R1 := R.to s1
        have mv := own_mv R1 p1 (o := .lst (vs ++ [v])) e2 fun z => z
        have R2 := R1.write (o := .lst (vs ++ [v])) (d' := .lst (ds ++ [d])) hi hl p1 ⟨_, upd_same, RepL.move mv _ _ ((RepL.move (Mv.same s1) _ _ r1).append (RepL.one r2))⟩
        exact q2 O σ _ R2 ((Mv.same s1).trans mv)
      · exact q2.elim
    | _ => exact q1.elim
/-- x[j] = e -/
theorem s_setL {i : Nat} {mj : EM} (h : PS X st (tAsg (tE X.K W ow m) (gSub (tVar i) (tE X.K W ow mj) rSetL))) (hi : ow i = true) : PS X st (tS fr X.K W ow (setL i mj m)) :=
  PS.of h fun D σ H ⟨A, H0, O, en, R, q⟩ => by
    obtain ⟨l, hl, q1⟩ := var_ok q
    obtain ⟨a, p1, p2, p3⟩ := R.owns i l hl hi
    cases l with
    | lst ds =>
      obtain ⟨vs, e1, r1⟩ := p3
      refine ⟨A, H0, O, en, R, ((Out.bind q1).se R).good fun d q2 v H1 s1 r2 => ⟨.ref a, p2, A, H0, O, en, R.to s1, ((Out.bind q2).se (R.to s1)).good fun k q3 w H2 s2 r3 => ?_⟩⟩
      cases k with
      | int z =>
        simp only at q3
        split at q3
        · rename_i n hn
          have s12 := s1.trans s2
          have e2 := s12 _ _ e1
          have r3' : w = .int z := r3
          subst r3'
          refine ⟨a, vs, z, n, rfl, rfl, e2, by rw [← r1.length]; exact hn, ?_⟩
          have R2 := R.to s12
          have mv := own_mv R2 p1 (o := .lst (vs.set n v)) e2 fun z => z
          have R3 := R2.write (o := .lst (vs.set n v)) (d' := .lst (ds.set n d)) hi hl p1 ⟨_, upd_same, RepL.move mv _ _ (RepL.set (Rep.move (Mv.same s2) _ _ r2) n (RepL.move (Mv.same s12) _ _ r1))⟩
          exact q3 O σ _ R3 ((Mv.same s12).trans mv)
        · exact q3.elim
      | _ => exact q3.elim
    | _ => exact q1.elim
/-- self.f = e -/
theorem s_setF {i : Nat} {cs : List String} {f : String} (F : ∀ c ∈ cs, Cls X.K (ca X.K c) ∧ NoAttr X.K (ca X.K c) (Str.ofString f)) (h : PS X st (sFld X.K (tVar i) (tE X.K W ow m) (Str.ofString f))) (hi : ow i = true) : PS X st (tS fr X.K W ow (setF i cs f m)) :=
  PS.of h fun D σ H ⟨A, H0, O, en, R, q⟩ => by
    obtain ⟨l, hl, q1⟩ := var_ok q
    obtain ⟨a, p1, p2, p3⟩ := R.owns i l hl hi
    cases l with
    | ins c fs =>
      obtain ⟨dx, fvs, e1, r1⟩ := p3
      simp only at q1
      split at q1
      · rename_i hz
        obtain ⟨f1, f2⟩ := F c (by simpa using hz.1)
        refine ⟨A, H0, O, en, R, ((Out.bind q1).se R).good fun d q2 v H1 s1 r2 => ⟨.ref a, p2, a, _, dx, fvs, rfl, s1 _ _ e1, f1, f2, by rw [← r1.length]; exact hz.2, ?_⟩⟩
        have R1 := R.to s1
        have mv := own_mv R1 p1 (o := .ins (ca X.K c) dx (L2.putF (Str.ofString f) v fvs)) (s1 _ _ e1) fun z => z
        have R2 := R1.write (o := .ins (ca X.K c) dx (L2.putF (Str.ofString f) v fvs)) (d' := .ins c (putF f d fs)) hi hl p1 ⟨dx, _, upd_same, RepF.move mv _ _ (RepF.put r2 (RepF.move (Mv.same s1) _ _ r1))⟩
        exact q2 O σ _ R2 ((Mv.same s1).trans mv)
      · exact q1.elim
    | _ => exact q1.elim
end
end Py

/-! Calls, defs, classes. -/
namespace Py
open PySem L2
theorem takes0N {X : Cx} : L2N.Takes X (fun _ _ _ _ => False) := fun u s' x => by
  obtain ⟨a, B, sI, pins, σ, H, cls, d, x1, x2, x3, x4, x5, x6, x7, x8, z⟩ := x
  exact z.elim
theorem passLN {X : Cx} : Passes (L2N.CX X.prog X.w) X E0 := fun pins σ H s e s' I h => by
  obtain ⟨a, B, H', cls, d, x1, x2, x3, x4, x5, x6, x7, z⟩ := h
  exact z.elim
/-- where one stands: k calls deep there is room -/
structure Ctx (X : Cx) (W : WX) (k : Nat) : Prop where
  calm : X.calm = true
  tk : L2N.Takes X W
  po : PassesOwn (model X.prog X.w) X.A X.env X.xe
  hr : Room k X.A
  nd : X.N.Nodup
theorem Ctx.blk {X : Cx} {W : WX} {k : Nat} (c : Ctx X W k) (s : Shared) (H : Hp) (scope : Scope) (cenv : PySem.Env) (fp : List Addr) : Ctx (X.blk s H scope cenv fp) W0 k := ⟨c.calm, takes0N, PassesOwn.never, c.hr, c.nd⟩
/-- a def that computes m of its arguments -/
def spM (K : Frag) (p : Nat) (m : List D → Res D) : Sp := fun vs H Q E => ∃ A ds, RepL K A H ds vs ∧ ds.length = p ∧ (∀ a, A a → H a ≠ none) ∧
  Out (m ds) (fun d => ∀ v H', Same H H' → Rep K A H' d v → Q v H') (fun c fs => ∀ da H' fvs, Same H H' → H' da = some (.xd fvs) → RepF K A H' fs fvs → E (.ref (ca K c)) (some da) H')
/-- an __init__ that makes m of the arguments behind self -/
def spI (K : Frag) (p : Nat) (cls : String) (m : List D → Res D) : Sp := fun vs H Q E => ∃ A x dx H1 ds ws, vs = .ref x :: ws ∧ H = upd (upd H1 dx (.own x)) x (.ins (ca K cls) dx []) ∧ H1 x = none ∧ H1 dx = none ∧ dx ≠ x ∧ RepL K A H1 ds ws ∧ ds.length + 1 = p ∧ (∀ a, A a → H1 a ≠ none) ∧
  Out (m ds) (fun d => ∀ H', Same H1 H' → Rep K A H' d (.ref x) → Q .non H') (fun c fs => ∀ da H' fvs, Same H1 H' → H' da = some (.xd fvs) → RepF K A H' fs fvs → E (.ref (ca K c)) (some da) H')
section
variable {X : Cx} {W : WX} {ow : Ow} {a b c e : Expr} {es : List Expr} {m ma mb mc : EM} {am : AM} {pos p : Pos} {k j n : Nat} {f C : Addr} {fd : FuncData} {ps : List Str} {x : Str} {fm : List D → Res D}
theorem call_of {E : St → XK} (hE : ∀ σ cls d H, W cls d σ H → E σ cls d H) {σ : L2.St} {H : Hp} {Q : VK} (h : tE X.K W ow (call fm am) σ H Q) (hl : ∀ ds d, fm ds = .ok d → ds.length = n) (hx : ∀ ds c fs, fm ds = .exc c fs → ds.length = n) : tCallSD (spM X.K n fm) [] E (aE X.K W ow am) σ H Q := by
  obtain ⟨A, H0, O, en, R, q⟩ := h
  refine ⟨A, H0, O, en, R, (Out.bind q).good fun ds q1 vs H1 s1 r1 => ?_⟩
  dsimp only
  rw [List.append_nil]
  refine ⟨AO A O, ds, paired_rep r1, ?_, (R.to s1).there, q1.imp (fun d _ k v H2 s2 r2 => k v H2 (s1.trans s2) r2) fun c fs z da H2 fvs s2 q2 r2 => hE _ _ _ _ (z da H2 fvs (s1.trans s2) q2 r2)⟩
  cases e : fm ds with
  | ok d => exact hl ds d e
  | exc c fs => exact hx ds c fs e
  | stuck =>
    rw [e] at q1
    exact q1.elim
/-- what a def asks of its number of arguments -/
structure Ar (n : Nat) (fm : List D → Res D) : Prop where
  ok : ∀ ds d, fm ds = .ok d → ds.length = n
  ex : ∀ ds c fs, fm ds = .exc c fs → ds.length = n
theorem ar_fn {p n : Nat} {body : SM} : Ar p (fn p n body) := by
  refine ⟨fun ds d h => ?_, fun ds c fs h => ?_⟩ <;> (unfold fn at h; split at h; (· assumption); (· cases h))
theorem x_call (T : Ctx X W j) (F : FnOk X.prog X.w X.K X.mg X.base (L2N.CX X.prog X.w) k f fd ps (spM X.K n fm)) (hn : Ar n fm) (hk : k ≤ j) (hg : Gl X x) (hm : X.mg x = some (.ref f)) (hkp : PySem.W.keepIn X.K (.ref f) = true) (hb : Binds X.K fd ps [])
    (ha : PA X (e :: es) (aE X.K W ow am)) (hdb : (x == ("__debug__" : Str)) = false := by decide) (he : starEach (e :: es) X.env = (false, eval e X.env) :: starEach es X.env := by rfl) (hpl : (backTo pos (starEach es X.env)).any (·.1) = false := by rfl) :
    PE X (.Call (.Name x p) (e :: es) [] pos) (tE X.K W ow (call fm am)) :=
  PE.of (pe_callSD (E := WE W) F (T.hr.mono hk) hg hm hkp hb .nil (fun σ => L2N.passAt T.tk σ) ha hdb he hpl) fun _ _ _ h => call_of (fun _ _ _ _ z => z) h hn.ok hn.ex
theorem repF_imm {K : Frag} {A A' : AS} {H : Hp} : ∀ {fs : List (String × D)} {vs : List (Str × V)}, fs.all (fun q => imm q.2) = true → RepF K A H fs vs → RepF K A' H fs vs
  | [], vs, _, h => by
    simp only [RepF] at h ⊢
    exact h
  | (n, d) :: fs, vs, i, h => by
    simp only [List.all_cons, Bool.and_eq_true] at i
    simp only [RepF] at h ⊢
    obtain ⟨v, r, e, h1, h2⟩ := h
    exact ⟨v, r, e, Rep.imm d v i.1 h1, repF_imm i.2 h2⟩
/-- with arguments that may be a name's own lists -/
theorem x_callI (T : Ctx X W j) (F : FnOk X.prog X.w X.K X.mg X.base (L2N.CX X.prog X.w) k f fd ps (spM X.K n fm)) (hn : Ar n fm) (hk : k ≤ j) (hg : Gl X x) (hm : X.mg x = some (.ref f)) (hkp : PySem.W.keepIn X.K (.ref f) = true) (hb : Binds X.K fd ps [])
    (ha : PA X (e :: es) (aW X.K W ow am)) (hdb : (x == ("__debug__" : Str)) = false := by decide) (he : starEach (e :: es) X.env = (false, eval e X.env) :: starEach es X.env := by rfl) (hpl : (backTo pos (starEach es X.env)).any (·.1) = false := by rfl) :
    PE X (.Call (.Name x p) (e :: es) [] pos) (tE X.K W ow (callI fm am)) :=
  PE.of (pe_callSD (E := WE W) F (T.hr.mono hk) hg hm hkp hb .nil (fun σ => L2N.passAt T.tk σ) ha hdb he hpl) fun σ H Q ⟨A, H0, O, en, R, q⟩ => by
    refine ⟨A, H0, O, en, R, (Out.bind q).good fun ds q1 vs H1 s1 r1 => ?_⟩
    dsimp only
    rw [List.append_nil]
    have rl := paired_none r1
    have q1 := id q1
    refine ⟨fun _ => False, ds, rl, ?_, fun _ z => z.elim, ?_⟩
    · cases e : fm ds with
      | ok d => exact hn.ok ds d e
      | exc c fs => exact hn.ex ds c fs e
      | stuck =>
        rw [e] at q1
        exact q1.elim
    · cases e : fm ds with
      | ok d =>
        rw [e] at q1
        dsimp only at q1
        split at q1
        · rename_i hi
          exact fun v H2 s2 r2 => q1 v H2 (s1.trans s2) (Rep.imm d v hi r2)
        · exact q1.elim
      | exc c fs =>
        rw [e] at q1
        dsimp only at q1
        split at q1
        · rename_i hi
          exact fun da H2 fvs s2 q2 r2 => q1 da H2 fvs (s1.trans s2) q2 (repF_imm hi r2)
        · exact q1.elim
      | stuck =>
        rw [e] at q1
        exact q1.elim
/-- C(..) of an own class -/
theorem x_make {cls : String} (T : Ctx X W j) (hW : ∀ c d σ σ' H, W c d σ H → W c d σ' H) (M : Mk X.K (ca X.K cls) f) (F : FnOk X.prog X.w X.K X.mg X.base (L2N.CX X.prog X.w) k f fd ps (spI X.K n cls fm)) (hn : ∀ ds d, (fm ds = .ok d → ds.length + 1 = n)) (hx : ∀ ds c fs, fm ds = .exc c fs → ds.length + 1 = n)
    (hk : k + 1 ≤ j) (hg : Gl X x) (hm : X.mg x = some (.ref (ca X.K cls))) (hb : Binds X.K fd ps [])
    (ha : PA X (e :: es) (aE X.K W ow am)) (hdb : (x == ("__debug__" : Str)) = false := by decide) (he : starEach (e :: es) X.env = (false, eval e X.env) :: starEach es X.env := by rfl) (hpl : (backTo pos (starEach es X.env)).any (·.1) = false := by rfl) :
    PE X (.Call (.Name x p) (e :: es) [] pos) (tE X.K W ow (call fm am)) :=
  PE.of (pe_make (E := fun c d H => ∀ σ, W c d σ H) M F (T.hr.mono hk) hg hm hb .nil (L2N.passes_call T.tk fun c d σ H h => h σ) ha hdb he hpl) fun σ H Q ⟨A, H0, O, en, R, q⟩ => by
    refine ⟨A, H0, O, en, R, (Out.bind q).good fun ds q1 vs H1 s1 r1 y dx hy hdx hne => ?_⟩
    rw [List.append_nil]
    have sm : Same H1 (upd (upd H1 dx (.own y)) y (.ins (ca X.K cls) dx [])) := fun b o e => by
      rw [upd_ne (ne_of_none e hy), upd_ne (ne_of_none e hdx)]
      exact e
    refine ⟨AO A O, y, dx, H1, ds, vs, rfl, rfl, hy, hdx, hne, paired_rep r1, ?_, (R.to s1).there, ?_⟩
    · cases e : fm ds with
      | ok d => exact hn ds d e
      | exc c fs => exact hx ds c fs e
      | stuck =>
        rw [e] at q1
        exact q1.elim
    · exact q1.imp (fun d _ k H2 s2 r2 => ⟨rfl, k _ H2 (s1.trans s2) r2⟩) fun c fs z da H2 fvs s2 q2 r2 σ' => hW _ _ σ _ _ (z da H2 fvs (s1.trans s2) q2 r2)
end
/-! ### defs -/
section
variable {P : Program} {w : World} {K : Frag} {mg : Str → Option Value} {base : Heap} {name qual : Str} {params : Arguments} {body : List Stmt} {scope : Scope} {dvs : List V} {kws : List (Str × V)} {f : Addr} {fd : FuncData} {N ps : List Str} {k : Nat} {ow oN oB : Ow} {m : SM}
theorem start_get {N : List Str} {vs : List V} {i : Nat} {v : V} (h : vs[i]? = some v) : (L2.start N vs)[i]? = some (some v) := by
  unfold L2.start
  have hi := (List.getElem?_eq_some_iff.mp h).1
  rw [List.getElem?_append_left (by simpa using hi), List.getElem?_map, h]
  rfl
abbrev WD (E : XK) : WX := fun c d _ H => E c d H
/-- a def's start -/
theorem spM_start {E : XK} {vs : List V} {H : Hp} {Q : VK} (hpre : ps.length ≤ N.length) (hx : ow.x = none) (hp : ∀ i, i < ps.length → ow i = false) (h : spM K ps.length (fn ps.length N.length m) vs H Q E) :
    tS3 false K (WD E) ow oN oB m { nx := fun _ H' => Q .non H', rt := Q } (L2.start N vs) H := by
  obtain ⟨AV, ds, r, hl, ha, q⟩ := h
  refine ⟨AV, ⟨H, none⟩, fun _ => none, ds.map some ++ List.replicate (N.length - ps.length) none, ?_, ?_⟩
  · have hlv := r.length
    have hN : ps.length ≤ N.length := hpre
    refine ⟨?_, ha, Same.refl H, fun i d h1 h2 => ?_, fun i d h1 h2 => ?_, fun i a h => (nomatch h), fun i j a h => (nomatch h), fun a h => (nomatch h), XFact.none hx⟩
    · unfold L2.start
      simp only [List.length_append, List.length_map, List.length_replicate]
      omega
    · by_cases hi : i < ds.length
      · rw [List.getElem?_append_left (by simpa using hi), List.getElem?_map, List.getElem?_eq_getElem hi] at h1
        simp only [Option.map_some, Option.some.injEq] at h1
        subst h1
        obtain ⟨v, hv, rv⟩ := r.get (List.getElem?_eq_getElem hi)
        exact ⟨v, start_get hv, Rep.move (Mv.less fun b hb => hb.elim id fun ⟨_, z⟩ => nomatch z) _ _ rv⟩
      · rw [List.getElem?_append_right (by simpa using hi)] at h1
        rw [List.getElem?_replicate] at h1
        split at h1 <;> cases h1
    · by_cases hi : i < ds.length
      · rw [hp i (by omega)] at h2
        cases h2
      · rw [List.getElem?_append_right (by simpa using hi)] at h1
        rw [List.getElem?_replicate] at h1
        split at h1 <;> cases h1
  · unfold fn at q
    rw [if_pos hl] at q
    cases e : m (ds.map some ++ List.replicate (N.length - ps.length) none) with
    | ok fl =>
      rw [e] at q
      cases fl with
      | next e' => exact fun O' σ' H' R' _ => q .non H' R'.same rfl
      | ret d => exact fun v H' s' r' => q v H' s' r'
      | brk e' => exact q.elim
      | cnt e' => exact q.elim
    | exc c fs =>
      rw [e] at q
      exact fun σ' da H' fvs s' q' r' => q da H' fvs s' q' r'
    | stuck =>
      rw [e] at q
      exact q.elim
theorem pre_le {N ps : List Str} (h : N.take ps.length = ps) : ps.length ≤ N.length := by
  have h2 := congrArg List.length h
  rw [List.length_take] at h2
  omega
/-- a def whose body computes m -/
theorem fn_ok (F : FunD K name qual params body scope dvs kws f fd) (S : FnScope N ps scope) (hx : ow.x = none) (hp : ∀ i, i < ps.length → ow i = false)
    (hb : ∀ (cdv : Value) (A : Around) (outer : List PySem.Env) (s : Shared) (H : Hp) (E : XK), Ctx (cxOf (L2N.CX P w) P w K mg base N qual scope f cdv A outer s H E) (WD E) k →
      PSs (cxOf (L2N.CX P w) P w K mg base N qual scope f cdv A outer s H E) body (tS3 false K (WD E) ow oN oB m)) :
    FnOk P w K mg base (L2N.CX P w) (k + 1) f fd ps (spM K ps.length (fn ps.length N.length m)) := by
  refine F.ok S (fun vs H Q E ⟨A, ds, r, h, _⟩ => r.length.symm.trans h) (fun cdv A outer s H vs Q E hr h => ?_)
  exact ⟨tS3 false K (WD E) ow oN oB m, hb cdv A outer s H E ⟨rfl, L2N.takes_of rfl rfl rfl rfl, passes_of rfl, hr, S.nd⟩, spM_start (pre_le S.pre) hx hp h⟩
theorem opt_pin {O : OW} {x : Addr} (h : some x = O 0) : O 0 = some x := h.symm
/-- an __init__ whose body fills self, which stands in slot 0 -/
theorem init_ok {cls : String} (F : FunD K name qual params body scope dvs kws f fd) (S : FnScope N ps scope) (hox : ow.x = none) (h0 : ow 0 = true) (hp0 : 0 < ps.length) (hp : ∀ i, 0 < i → i < ps.length → ow i = false)
    (hb : ∀ (cdv : Value) (A : Around) (outer : List PySem.Env) (s : Shared) (H : Hp) (E : XK), Ctx (cxOf (L2N.CX P w) P w K mg base N qual scope f cdv A outer s H E) (WD E) k →
      PSs (cxOf (L2N.CX P w) P w K mg base N qual scope f cdv A outer s H E) body (tS false K (WD E) ow m)) :
    FnOk P w K mg base (L2N.CX P w) (k + 1) f fd ps (spI K ps.length cls (made ps.length N.length cls m)) := by
  refine F.ok S (fun vs H Q E ⟨A, x, dx, H1, ds, ws, h1, _, _, _, _, r, h, _⟩ => by rw [h1, List.length_cons, ← r.length]; exact h) (fun cdv A outer s H vs Q E hr h => ?_)
  obtain ⟨AV, x, dx, H1, ds, ws, rfl, hH, hx, hdx, hne, r, hl, ha, q⟩ := h
  have sd : Same H1 (upd H1 dx (.own x)) := fun b o e => by
    rw [upd_ne (ne_of_none e hdx)]
    exact e
  have hx2 : upd H1 dx (.own x) x = none := by
    rw [upd_ne fun z => hne z.symm]
    exact hx
  have s2 : Same (upd H1 dx (.own x)) H := by
    rw [hH]
    exact new_same hx2
  have s1 : Same H1 H := sd.trans s2
  refine ⟨tS false K (WD E) ow m, hb cdv A outer s H E ⟨rfl, L2N.takes_of rfl rfl rfl rfl, passes_of rfl, hr, S.nd⟩, AV, ⟨upd H1 dx (.own x), some x⟩, fun i => if i = 0 then some x else none, (some (.ins cls []) :: ds.map some) ++ List.replicate (N.length - ps.length) none, ?_, ?_⟩
  · have hlv := r.length
    have hN : ps.length ≤ N.length := by
      have := S.pre
      have h2 := congrArg List.length this
      rw [List.length_take] at h2
      omega
    have nx : ∀ i a, (if i = 0 then some x else none) = some a → i = 0 ∧ a = x := fun i a h => by
      by_cases hi : i = 0
      · rw [if_pos hi] at h
        cases h
        exact ⟨hi, rfl⟩
      · rw [if_neg hi] at h
        cases h
    have mv : Mv AV H1 (AO AV fun i => if i = 0 then some x else none) H := ⟨fun b hb => by
      rcases hb with hb | ⟨i, hb⟩
      · exact .inl hb
      · rw [(nx i b hb).2]
        exact .inr hx, fun b o e _ => s1 b o e⟩
    refine ⟨?_, fun b hb => ne_none s1 (ha b hb), s2, fun i d h1 h2 => ?_, fun i d h1 h2 => ?_, fun i a h => ?_, fun i j a h h' => (nx i a h).1.trans (nx j a h').1.symm, fun a h => ?_, XFact.none hox⟩
    · unfold L2.start
      simp only [List.length_append, List.length_map, List.length_replicate, List.length_cons]
      omega
    · cases i with
      | zero =>
        rw [h0] at h2
        cases h2
      | succ i =>
        by_cases hi : i < ds.length
        · rw [List.getElem?_append_left (by simpa using hi), List.getElem?_cons_succ, List.getElem?_map, List.getElem?_eq_getElem hi] at h1
          simp only [Option.map_some, Option.some.injEq] at h1
          subst h1
          obtain ⟨v, hv, rv⟩ := r.get (List.getElem?_eq_getElem hi)
          exact ⟨v, start_get (by simpa using hv), Rep.move mv _ _ rv⟩
        · rw [List.getElem?_append_right (by simpa using hi)] at h1
          rw [List.getElem?_replicate] at h1
          split at h1 <;> cases h1
    · cases i with
      | zero =>
        simp only [List.cons_append, List.getElem?_cons_zero, Option.some.injEq] at h1
        subst h1
        refine ⟨x, rfl, start_get rfl, dx, [], ?_, by simp [RepF]⟩
        rw [hH]
        exact upd_same
      | succ i =>
        by_cases hi : i < ds.length
        · rw [hp (i + 1) (by omega) (by omega)] at h2
          cases h2
        · rw [List.getElem?_append_right (by simpa using hi)] at h1
          rw [List.getElem?_replicate] at h1
          split at h1 <;> cases h1
    · obtain ⟨_, rfl⟩ := nx i a h
      refine ⟨hx2, ?_, fun z => ha a z hx⟩
      rw [hH, upd_same]
      exact fun z => nomatch z
    · cases h
      rfl
  · unfold made at q
    rw [if_pos hl] at q
    cases e : m ((some (.ins cls []) :: ds.map some) ++ List.replicate (N.length - ps.length) none) with
    | ok fl =>
      rw [e] at q
      cases fl with
      | next e' =>
        refine fun O' σ' H' R' _ => ?_
        cases e' with
        | nil => exact q.elim
        | cons d0 r0 =>
          cases d0 with
          | none => exact q.elim
          | some d1 =>
            cases d1 with
            | ins c fs =>
              have q2 : ∀ H', Same H1 H' → Rep K AV H' (.ins c fs) (.ref x) → Q .non H' := q
              refine q2 H' (sd.trans R'.same) ?_
              have hpin : O' 0 = some x := R'.pin x rfl
              obtain ⟨a, p1, p2, dx', fvs, p3, p4⟩ := R'.owns 0 (.ins c fs) rfl h0
              rw [hpin] at p1
              cases p1
              simp only [Rep]
              exact ⟨x, dx', fvs, rfl, fun z => ha x z hx, p3, RepF.move (Mv.less fun b => .inl) _ _ p4⟩
            | _ => exact q.elim
      | ret d => exact q.elim
      | brk e' => exact q.elim
      | cnt e' => exact q.elim
    | exc c fs =>
      rw [e] at q
      exact fun σ' da H' fvs s' q' r' => q da H' fvs (sd.trans s') q' r'
    | stuck =>
      rw [e] at q
      exact q.elim
end
end Py

/-! enumerate over tuples and lists. -/
namespace PySem
open Builtin
theorem py_en_new {v : Value} {o : Obj} {H : Heap → Prop} (B : Begins v o H) :
    Meets (Builtin.«enumerate.__new__» ⟨[.type "enumerate", v], []⟩) (fun _ R s => H s.heap ∧
      R (.ok (.ret (.ref (s.heap.push o).objs.size))) { s with heap := (s.heap.push o).push { cls := .type "enumerate", data := .fields #[.none, .bool false, .ref s.heap.objs.size, rawInt 0, .none, .none] } }) :=
  .of_wp fun prog w A R s h => by
    obtain ⟨hp, g, d, tk, os⟩ := s
    obtain ⟨h1, h⟩ := h
    have hsub := sub_enumerate
    have iter1 : ∀ {A' : Around} {E : Value → Shared → Prop} {Q : Value → Shared → Prop}, Q (.ref hp.objs.size) ⟨hp.push o, g, d, tk, os⟩ → wpAny (model prog w) A' (pyIter v) Q E ⟨hp, g, d, tk, os⟩ :=
      fun q => B.iter prog w _ _ ⟨hp, g, d, tk, os⟩ _ h1 q
    wp_walk using iter1
    refine wpAny_stack_any fun st => wpAny_pure ?_
    split
    · rename_i c _ _ _ _ _
      cases (c == Value.type "enumerate")
      · wp_walk using iter1
        exact ⟨_, rfl, h⟩
      · wp_walk using iter1
        exact ⟨_, rfl, h⟩
    · wp_walk using iter1
      exact ⟨_, rfl, h⟩
theorem py_en_call {prog : Program} {w : World} {A : Around} {E : Value → Shared → Prop} {s : Shared} {v : Value} {o : Obj} {H : Heap → Prop} {Q : Value → Shared → Prop} (B : Begins v o H) (h1 : H s.heap)
    (h : ∀ h', IsEnum h' (s.heap.objs.size + 1) s.heap.objs.size 0 .none → h'.get? s.heap.objs.size = some o → h'.objs.size = s.heap.objs.size + 2 →
      (∀ b o, s.heap.get? b = some o → h'.get? b = some o) → Q (.ref (s.heap.objs.size + 1)) { s with heap := h' }) :
    wpAny (model prog w) A (call (.type "enumerate") [v]) Q E s := by
  refine callType_new F.called_enumerate (by decide) (F.typeCall_enumerate_1 _) (F.newCall_enumerate_1 _) (fun obj => F.args_object_init_2 obj _) F.entry_enumerate_new (py_en_new B) ⟨h1, ?_⟩
  have hz : (s.heap.push o).objs.size = s.heap.objs.size + 1 := Heap.size_push ..
  show _ ∧ _
  rw [hz]
  have he : IsEnum ((s.heap.push o).push { cls := .type "enumerate", data := .fields #[.none, .bool false, .ref s.heap.objs.size, rawInt 0, .none, .none] }) (s.heap.objs.size + 1) s.heap.objs.size 0 .none := by
    have this := Heap.get?_push_size (s.heap.push o) (o := { cls := .type "enumerate", data := .fields #[.none, .bool false, .ref s.heap.objs.size, rawInt 0, .none, .none] }) rfl
    rw [hz] at this
    exact this
  exact ⟨⟨_, he, rfl⟩, h _ he (Heap.get?_push_of_some _ (Heap.get?_push_size _ B.free)) (by rw [Heap.size_push, hz]) fun b o x => Heap.get?_push_of_some _ (Heap.get?_push_of_some _ x)⟩
end PySem
namespace Py
open PySem L2
/-- enumerate over the tuple at a -/
def Iet (K : Frag) (a : Addr) : It :=
  ⟨fun i H => ∃ (xs : List V) (x : V), SqT K H a xs ∧ xs[i]? = some x, fun i H v H' => ∃ T x, v = .ref T ∧ H T = none ∧ H' = upd H T (.tup [.int (i : Nat), x]) ∧ ∀ xs, SqT K H a xs → xs[i]? = some x, fun i H => ∃ xs : List V, SqT K H a xs ∧ i = xs.length⟩
theorem turn_enumT {P : Program} {w : World} {K : Frag} {elts : List Expr} {kk : Nat} {tpos : Pos} (a e it : Addr) :
    Turn P w K (.Tuple elts kk tpos) (Iet K a) [e, it] e (fun i h => (∃ old, IsEnum h e it ((i : Nat) : Int) old) ∧ h.IsTupleIter it a i ∧ e ≠ it ∧ a ≠ it ∧ a ≠ e) where
  mem := by simp
  obj := fun i h st b hb => by
    obtain ⟨⟨old, he⟩, ⟨o, ho, hc, hd⟩, _⟩ := st
    rcases (by simpa using hb : b = e ∨ b = it) with z | z
    · subst z
      exact ⟨_, he, fun v q => nomatch q⟩
    · subst z
      exact ⟨o, ho, fun v q => by rw [hd] at q; cases q⟩
  keep := fun i h h' st k => by
    obtain ⟨⟨old, he⟩, hi, n1, n2, n3⟩ := st
    exact ⟨⟨old, k e (by simp) _ he⟩, hi.at fun o q => k it (by simp) o q, n1, n2, n3⟩
  item := by
    intro X hP hw hK hc i pins s σ H E I hf st hg
    subst hP hw hK
    obtain ⟨⟨old, he⟩, hit, n1, n2, n3⟩ := st
    obtain ⟨xs, x, hq, hx⟩ := hg
    obtain ⟨its, rv, tp, hz⟩ := I.tuple hq
    obtain ⟨u, hu, ru⟩ := rv.get hx
    have hel : e < s.heap.objs.size := Heap.lt_size he
    have hil : it < s.heap.objs.size := by
      obtain ⟨_, q, _⟩ := hit
      exact Heap.lt_size q
    have hi : i < its.toArray.size := by
      have := (List.getElem?_eq_some_iff.mp hu).1
      simpa using this
    have htp : s.heap.IsTuple a its.toArray := tp
    refine wpAny_pyNext_enum_itemD (Draws.tuple (prog := X.prog) (w := X.w) (A := X.A.in1) (I.ok.hd hc) it a n2 its.toArray) he (show _ ∧ _ from ⟨hit, htp⟩) hi n1 (by simp [n1, n3.symm]) fun x' h' tk hP' ho hst' hT hsz hk => ?_
    have hxu : x' = u := by
      have q1 : its[i]? = some x' := by simpa using hP'
      rw [hu] at q1
      exact (Option.some.inj q1).symm
    subst hxu
    refine ⟨_, rfl, wpAny_letOwnedTupleGo_enum (s := { s with heap := h', toks := tk + 1 }) ho fun h'' he' sb => ?_⟩
    have hT2 : h''.get? s.heap.objs.size = some { cls := .type "tuple", data := .seq #[.int i tk, x'] } := (sb.2 _ (Nat.ne_of_gt hel)).trans hT
    have new : ObjOk X.prog X.w (upd H s.heap.objs.size (.tup [.int (i : Nat), x])) h'' s.heap.objs.size (.tup [.int (i : Nat), x]) :=
      ⟨by show 2 ≤ sizeLine; decide, [.int i tk, x'], .cons ⟨_, rfl⟩ (.cons ru .nil), ⟨_, hT2, rfl, _, rfl⟩⟩
    have I1 : Inv X pins σ (upd H s.heap.objs.size (.tup [.int (i : Nat), x])) { s with heap := h'', toks := tk + 1 } :=
      I.turnedNew (ch := [e, it]) (fun b ob hb q => (sb.2 b fun z => hb (by simp [z])).trans (hk b ob (fun z => hb (by simp [z])) (fun z => hb (by simp [z])) q)) hf (Nat.le_refl _) new
    refine ⟨.ref s.heap.objs.size, _, I1, rfl, ⟨_, x, rfl, I.hok.fresh (Nat.le_refl _), rfl, fun ys hy => by rw [I.tuple_inj hy hq]; exact hx⟩, ⟨⟨x', ?_⟩, hst'.1.at fun o q => (sb.2 it n1.symm).trans q, n1, n2, n3⟩, fun b hb => ?_⟩
    · have e1 : ((i + 1 : Nat) : Int) = (i : Int) + 1 := by omega
      rw [e1]
      exact he'
    · have hb' : b < s.heap.objs.size := by
        rcases (by simpa using hb : b = e ∨ b = it) with z | z
        · subst z
          exact hel
        · subst z
          exact hil
      rw [upd_ne (Nat.ne_of_lt hb')]
      exact (hf b hb).1
  done := by
    intro X hP hw hK hc i pins s σ H E I hf st hg
    subst hP hw hK
    obtain ⟨⟨old, he⟩, hit, n1, n2, n3⟩ := st
    obtain ⟨xs, hq, hx⟩ := hg
    obtain ⟨its, rv, tp, hz⟩ := I.tuple hq
    obtain ⟨f0, f1, f2, f3, f4, f5⟩ := hf it (by simp)
    have hl := rv.length
    have htp : s.heap.IsTuple a its.toArray := tp
    have hi2 : i = its.toArray.size := by
      rw [List.size_toArray]
      omega
    subst hi2
    exact wpAny_pyNext_enum_endD (Draws.tuple (prog := X.prog) (w := X.w) (A := X.A.in1) (I.ok.hd hc) it a n2 its.toArray) he (show _ ∧ _ from ⟨hit, htp⟩) fun h' eb => ⟨rfl, I.turned (t' := s.toks) (fun b o hb q => eb b o hb q) f0 f1 f3 f4 f5⟩
  self := fun A i s Q E st h => by
    obtain ⟨⟨_, he⟩, _⟩ := st
    exact wpAny_pyIter_enum he h
section
variable {X : Cx} {W : WX} {ow : Ow} {a b c e : Expr} {es elts : List Expr} {m ma mb mc : EM} {pos p tpos : Pos} {kk : Nat}
def iEnumE (K : Frag) (ta : TA) : TI := fun σ H R => ta σ H fun vs H1 => ∃ a, vs = [.ref a] ∧ ((∃ xs, SqL K H1 a xs ∧ R (Ite K a) H1) ∨ ∃ xs, SqT K H1 a xs ∧ R (Iet K a) H1)
theorem pi_enumE {ta : TA} (hg : Gl X "enumerate") (hm : X.mg "enumerate" = none) (ha : PA X [e] ta) (hs : starEach [e] X.env = [(false, eval e X.env)] := by rfl) : PI X (.Tuple elts kk tpos) (.Call (.Name "enumerate" p) [e] [] pos) (iEnumE X.K ta) := by
  refine ⟨fun pins s σ H R I h => ?_⟩
  refine PyProof.Rows.Call_ (ld_blt I hg hm PyProof.Rows.boot_enumerate (PyProof.Rows.callWith_type1 (thn (ha.run pos pins s σ H _ I h) fun us s1 ⟨vs, H1, I1, r1, q1⟩ => ?_) hs rfl))
  obtain ⟨a, ex, q⟩ := q1
  subst ex
  obtain ⟨u, rfl, ru⟩ := vals1 r1
  cases ru
  have fin : ∀ b ∈ [s1.heap.objs.size + 1, s1.heap.objs.size], FpOk X pins H1 b := fun b hb => by
    have hle : s1.heap.objs.size ≤ b := by
      rcases (by simpa using hb : b = s1.heap.objs.size + 1 ∨ b = s1.heap.objs.size) with z | z
      · rw [z]
        exact Nat.le_add_right _ _
      · rw [z]
        exact Nat.le_refl _
    exact I1.fpOk hle (I1.hok.fresh hle)
  rcases q with ⟨xs, hq, q⟩ | ⟨xs, hq, q⟩
  · obtain ⟨its, rv, tp, hz⟩ := I1.list hq
    refine py_en_call (begins_list a its.toArray) tp.isList fun h' he hit hsz hk => wpAny_pyIter_enum he ?_
    exact ⟨s1.heap.objs.size + 1, [s1.heap.objs.size + 1, s1.heap.objs.size], _, _, H1, rfl, I1.kept (t' := s1.toks) hk, turn_enum a (s1.heap.objs.size + 1) s1.heap.objs.size, ⟨⟨.none, he⟩, ⟨_, hit, rfl, rfl⟩, Nat.succ_ne_self _⟩, fin, q⟩
  · obtain ⟨its, rv, tp, hz⟩ := I1.tuple hq
    have hlt : a < s1.heap.objs.size := tp.lt
    refine py_en_call (begins_tuple a its.toArray) tp fun h' he hit hsz hk => wpAny_pyIter_enum he ?_
    exact ⟨s1.heap.objs.size + 1, [s1.heap.objs.size + 1, s1.heap.objs.size], _, _, H1, rfl, I1.kept (t' := s1.toks) hk, turn_enumT a (s1.heap.objs.size + 1) s1.heap.objs.size, ⟨⟨.none, he⟩, ⟨_, hit, rfl, rfl⟩, Nat.succ_ne_self _, Nat.ne_of_lt hlt, Nat.ne_of_lt (Nat.lt_succ_of_lt hlt)⟩, fin, q⟩
theorem enumL_get : ∀ {ds : List D} {n i : Nat} {d : D}, ds[i]? = some d → (enumL n ds)[i]? = some (.tup [.int ((n + i : Nat) : Int), d])
  | [], _, _, _, h => by simp at h
  | x :: ds, n, 0, d, h => by
    simp at h
    subst h
    rfl
  | x :: ds, n, i + 1, d, h => by
    simp only [enumL, List.getElem?_cons_succ]
    rw [enumL_get (n := n + 1) (by simpa using h)]
    rw [Nat.add_right_comm]
    rfl
theorem enumL_len : ∀ (ds : List D) (n : Nat), (enumL n ds).length = ds.length
  | [], _ => rfl
  | x :: ds, n => by
    simp only [enumL, List.length_cons]
    rw [enumL_len ds]
theorem enum_item {K : Frag} {A : AS} {H : Hp} {T : Addr} {i : Nat} {d : D} {v : V} (hn : H T = none) (r : Rep K A H d v) : Same H (upd H T (.tup [.int (i : Nat), v])) ∧ Rep K A (upd H T (.tup [.int (i : Nat), v])) (.tup [.int ((0 + i : Nat) : Int), d]) (.ref T) := by
  refine ⟨new_same hn, new_tup ?_ hn⟩
  rw [Nat.zero_add]
  simp only [RepL]
  exact ⟨_, _, rfl, rfl, v, [], rfl, r, rfl⟩
theorem itm_enumT {K : Frag} {A : AS} {H : Hp} {a : Addr} {ds : List D} {vs : List V} (q : SqT K H a vs) (r : RepL K A H ds vs) : Itm Mv K A (Iet K a) (enumL 0 ds) H := fun i A2 H2 m => by
  have q2 := SqT.move m q
  have r2 := RepL.move m ds vs r
  rw [enumL_len]
  refine ⟨fun hi => ?_, fun hi => ⟨vs, q2, by rw [← r.length]; exact hi⟩⟩
  obtain ⟨v, hv, rv⟩ := r2.get (i := i) (List.getElem?_eq_getElem hi)
  refine ⟨⟨vs, v, q2, hv⟩, fun x H3 ⟨T, x', e1, hn, e2, k⟩ => ?_⟩
  subst e1 e2
  have := k vs q2
  rw [hv] at this
  cases this
  obtain ⟨s1, r1⟩ := enum_item (i := i) hn rv
  exact ⟨s1, _, enumL_get (List.getElem?_eq_getElem hi), r1⟩
theorem itm_enumL {M : MvT} {K : Frag} {A : AS} {H : Hp} {a : Addr} {ds : List D} {vs : List V} (hM : ∀ A2 H2, M A H A2 H2 → Mv A H A2 H2 ∧ Rd H2 a (.lst vs)) (r : RepL K A H ds vs) : Itm M K A (Ite K a) (enumL 0 ds) H := fun i A2 H2 m => by
  obtain ⟨mv, rd⟩ := hM A2 H2 m
  have q2 : SqL K H2 a vs := .inl rd
  have r2 := RepL.move mv ds vs r
  rw [enumL_len]
  refine ⟨fun hi => ?_, fun hi => ⟨vs, q2, by rw [← r.length]; exact Nat.le_of_eq hi.symm⟩⟩
  obtain ⟨v, hv, rv⟩ := r2.get (i := i) (List.getElem?_eq_getElem hi)
  refine ⟨⟨vs, v, q2, hv⟩, fun x H3 ⟨T, x', e1, hn, e2, k⟩ => ?_⟩
  subst e1 e2
  have := k vs q2
  rw [hv] at this
  cases this
  obtain ⟨s1, r1⟩ := enum_item (i := i) hn rv
  exact ⟨s1, _, enumL_get (List.getElem?_eq_getElem hi), r1⟩
theorem i_enum (hg : Gl X "enumerate") (hm : X.mg "enumerate" = none) (ha : PE X a (tE X.K W ow ma)) (hs : starEach [a] X.env = [(false, eval a X.env)] := by rfl) : PI X (.Tuple elts kk tpos) (.Call (.Name "enumerate" p) [a] [] pos) (tI Mv X.K W ow (ienum ma)) :=
  PI.of (pi_enumE hg hm (pa_cons ha pa_nil hs) hs) fun σ H R' ⟨A, H0, O, en, R, q⟩ => ⟨A, H0, O, en, R, (Out.bind (Out.bind q)).good fun d q1 v H1 s1 r1 => by
    cases d with
    | lst xs =>
      obtain ⟨p, vs, rfl, n, h, r⟩ := (by simpa only [Rep] using r1 : ∃ a vs, v = .ref a ∧ ¬ AO A O a ∧ Rd H1 a (.lst vs) ∧ RepL X.K (AO A O) H1 xs vs)
      exact ⟨p, rfl, .inl ⟨vs, .inl h, q1 _ H1 s1 (itm_enumL (fun A2 H2 m => ⟨m, (Rd.move m h n).1⟩) r)⟩⟩
    | tup xs =>
      obtain ⟨p, vs, rfl, h, r⟩ := (by simpa only [Rep] using r1 : ∃ a vs, v = .ref a ∧ SqT X.K H1 a vs ∧ RepL X.K (AO A O) H1 xs vs)
      exact ⟨p, rfl, .inr ⟨vs, h, q1 _ H1 s1 (itm_enumT h r)⟩⟩
    | _ => exact q1.elim⟩
theorem i_enumW (hg : Gl X "enumerate") (hm : X.mg "enumerate" = none) (ha : PE X a (tW X.K W ow ma)) (hs : starEach [a] X.env = [(false, eval a X.env)] := by rfl) : PI X (.Tuple elts kk tpos) (.Call (.Name "enumerate" p) [a] [] pos) (tI Gr X.K W ow (ienum ma)) :=
  PI.of (pi_enumE hg hm (pa_cons ha pa_nil hs) hs) fun σ H R' ⟨A, H0, O, en, R, q⟩ => ⟨A, H0, O, en, R, (Out.bind (Out.bind q)).good fun d q1 v H1 s1 r1 => by
    cases d with
    | lst xs =>
      obtain ⟨p, vs, rfl, h, r⟩ := r1
      exact ⟨p, rfl, .inl ⟨vs, .inl h, q1 _ H1 s1 (itm_enumL (fun A2 H2 m => ⟨m.mv, rd_same m.2 h⟩) r)⟩⟩
    | tup xs =>
      obtain ⟨p, vs, rfl, h, r⟩ := (by simpa only [RepW, Rep] using r1 : ∃ a vs, v = .ref a ∧ SqT X.K H1 a vs ∧ RepL X.K (AO A O) H1 xs vs)
      exact ⟨p, rfl, .inr ⟨vs, h, q1 _ H1 s1 (itm_enumT h r).gr⟩⟩
    | _ => exact q1.elim⟩
end
end Py

/-! Comprehensions as expressions, what the module's names stand for, the ends. -/
namespace Py
open PySem L2
theorem f_le {K : Frag} {W : WX} {ow : Ow} {m : EM} {σ : L2.St} {H : Hp} {Q : VK} (h : tE K W ow m σ H Q) : tF K W ow m σ H Q := by
  obtain ⟨A, H0, O, en, R, q⟩ := h
  refine ⟨A, H0, O, en, R, q.good fun d k a H' n s r => k (.ref a) H' s ?_⟩
  have na : ¬ AO A O a := fun z => R.there a z n
  have mv : Mv (fun b => AO A O b ∨ b = a) H' (AO A O) H' := Mv.less fun b x => .inl x
  cases d with
  | lst ds =>
    obtain ⟨vs, e1, r1⟩ := r
    simp only [Rep]
    exact ⟨a, vs, rfl, na, .inl e1, RepL.move mv _ _ r1⟩
  | ins c fs =>
    obtain ⟨dx, fvs, e1, r1⟩ := r
    simp only [Rep]
    exact ⟨a, dx, fvs, rfl, na, e1, RepF.move mv _ _ r1⟩
  | _ => exact r.elim
section
variable {X : Cx} {W : WX} {ow : Ow} {a b c e : Expr} {es : List Expr} {m ma mb mc : EM} {am : AM} {pos p spos : Pos} {k j n : Nat}
variable {elt tg iter : Expr} {ifs : List Expr} {scope : Scope} {own : List (Str × Nat)} {it : IM} {g : GM} {t : TM} {me : EM} {ts : List Nat}
theorem ts_nil : PTs X [] (tT X.K W ow yes) := ⟨fun pins s σ H Q I ⟨A, H0, O, en, R, q⟩ => pts_nil.run pins s σ H Q I (q H (Same.refl H))⟩
theorem ts_one (h : PT X c (tT X.K W ow t)) : PTs X [c] (tT X.K W ow t) := pts_one h
/-- [elt for tg in iter if ..] -/
theorem f_lc (T : Ctx X W j) (hi : PI X tg iter (tI Gr X.K W ow it)) (ok : BlkOk X.N X.env.scope scope own)
    (hg : ∀ (s : Shared) (H : Hp) (C : Addr) (cl : List (Str × Addr)) (fp : List Addr), Ctx (X.blk s H scope (compEnvC scope cl C X.env) fp) W0 j → PG (X.blk s H scope (compEnvC scope cl C X.env) fp) tg (tGt X.K ow ts g))
    (ht : ∀ (s : Shared) (H : Hp) (C : Addr) (cl : List (Str × Addr)) (fp : List Addr), Ctx (X.blk s H scope (compEnvC scope cl C X.env) fp) W0 j → PTs (X.blk s H scope (compEnvC scope cl C X.env) fp) ifs (tT X.K W0 ow t))
    (he : ∀ (s : Shared) (H : Hp) (C : Addr) (cl : List (Str × Addr)) (fp : List Addr), Ctx (X.blk s H scope (compEnvC scope cl C X.env) fp) W0 j → PE (X.blk s H scope (compEnvC scope cl C X.env) fp) elt (tE X.K W0 ow me))
    (hts : ∀ i ∈ ts, i ∈ own.map (·.2)) (hx : ow.x = none := by rfl) (hs : ∀ x, foldedSetIterable iter X.env x = pure x := by intro _; rfl) :
    PE X (.ListComp elt [⟨tg, iter, ifs, 0⟩] scope pos) (tF X.K W ow (lcE it (own.map (·.2)) g t me)) :=
  PE.of (pe_lc T.calm T.nd hi ok (fun s H C cl fp => hg s H C cl fp (T.blk ..)) (fun s H C cl fp => ht s H C cl fp (T.blk ..)) (fun s H C cl fp => he s H C cl fp (T.blk ..)) hs) fun _ _ _ h => lc_of hx hts h
/-- y = [..], y a plain local -/
theorem s_lc0 {i : Nat} {y : Str} {py : Pos} (T : Ctx X W j) (hy : X.N[i]? = some y) (hyl : X.env.scope.names.lookup y = some .local)
    (hsw : swapsWith (.ListComp elt [⟨tg, iter, ifs, 0⟩] scope pos) (some (.Name y py)) spos.line X.env = pure true) (hi : PI X tg iter (tI Gr X.K W ow it)) (ok : BlkOk X.N X.env.scope scope own)
    (hg : ∀ (s : Shared) (H : Hp) (C : Addr) (cl : List (Str × Addr)) (fp : List Addr), Ctx (X.blk s H scope (compEnvC scope cl C X.env) fp) W0 j → PG (X.blk s H scope (compEnvC scope cl C X.env) fp) tg (tGt X.K ow ts g))
    (ht : ∀ (s : Shared) (H : Hp) (C : Addr) (cl : List (Str × Addr)) (fp : List Addr), Ctx (X.blk s H scope (compEnvC scope cl C X.env) fp) W0 j → PTs (X.blk s H scope (compEnvC scope cl C X.env) fp) ifs (tT X.K W0 ow t))
    (he : ∀ (s : Shared) (H : Hp) (C : Addr) (cl : List (Str × Addr)) (fp : List Addr), Ctx (X.blk s H scope (compEnvC scope cl C X.env) fp) W0 j → PE (X.blk s H scope (compEnvC scope cl C X.env) fp) elt (tE X.K W0 ow me))
    (hts : ∀ i ∈ ts, i ∈ own.map (·.2)) (hx : ow.x = none := by rfl) (hs : ∀ x, foldedSetIterable iter X.env x = pure x := by intro _; rfl) :
    PS X (.Assign [.Name y py] (.ListComp elt [⟨tg, iter, ifs, 0⟩] scope pos) spos) (tAsg (tF X.K W ow (lcE it (own.map (·.2)) g t me)) (gName i)) :=
  PS.of (ps_setLc T.calm T.nd hy hyl hsw hi ok (fun s H C cl fp => hg s H C cl fp (T.blk ..)) (fun s H C cl fp => ht s H C cl fp (T.blk ..)) (fun s H C cl fp => he s H C cl fp (T.blk ..)) hs) fun _ _ _ h => lc_of hx hts h
theorem s_f {st : Stmt} {i : Nat} (h : PS X st (tAsg (tF X.K W ow m) (gName i))) : PS X st (tAsg (tE X.K W ow m) (gName i)) := PS.of h fun _ _ _ q => f_le q
/-! ### is True -/
theorem y_isB : OpR X (compareOp .Is) (r2 X.K oisB) := imp2 op_isBl fun x y H Q ⟨A, d1, d2, d, h1, h2, _, e, k⟩ => by
  cases d1 <;> cases d2 <;> simp only [oisB, Res.ok.injEq, reduceCtorEq] at e
  subst e
  exact ⟨_, _, h1, h2, k _ H (Same.refl H) rep_bl⟩
theorem y_notB : OpR X (compareOp .IsNot) (r2 X.K onotB) := imp2 op_notBl fun x y H Q ⟨A, d1, d2, d, h1, h2, _, e, k⟩ => by
  cases d1 <;> cases d2 <;> simp only [onotB, Res.ok.injEq, reduceCtorEq] at e
  subst e
  exact ⟨_, _, h1, h2, k _ H (Same.refl H) rep_bl⟩
theorem n_isB : NoEx2 oisB := fun x y c fs => by cases x <;> cases y <;> exact fun z => nomatch z
theorem n_notB : NoEx2 onotB := fun x y c fs => by cases x <;> cases y <;> exact fun z => nomatch z
theorem b_isB : ∀ x y d, oisB x y = .ok d → ∃ k, d = .bl k := fun x y d h => by
  cases x <;> cases y <;> simp only [oisB, Res.ok.injEq, reduceCtorEq] at h
  exact ⟨_, h.symm⟩
theorem b_notB : ∀ x y d, onotB x y = .ok d → ∃ k, d = .bl k := fun x y d h => by
  cases x <;> cases y <;> simp only [onotB, Res.ok.injEq, reduceCtorEq] at h
  exact ⟨_, h.symm⟩
end
/-! ### a try that runs through -/
theorem Ctx.nox {X : Cx} {W : WX} {k : Nat} (c : Ctx X W k) : Ctx X.nox W0 k := ⟨c.calm, takes0N, PassesOwn.never, c.hr, c.nd⟩
section
variable {fr : Bool} {X : Cx} {W : WX} {ow : Ow} {body : List Stmt} {u : SM} {h0 : ExceptHandler} {hs : List ExceptHandler} {pos : Pos} {j : Nat}
theorem s_thru (T : Ctx X W j) (hb : Ctx X.nox W0 j → PSs X.nox body (tS fr X.K W0 ow u)) : PS X (.Try body (h0 :: hs) [] [] pos) (tS fr X.K W ow (thru u)) :=
  PS.of (ps_try_thru0 (hb T.nox)) fun D σ H ⟨A, H0, O, en, R, q⟩ => ⟨A, H0, O, en, R, by
    have q1 : Out (noexc (u en)) (EndOk fr X.K A H0 ow O H D) (badS X.K W A H0) := q
    cases e : u en with
    | ok f =>
      rw [e] at q1
      exact q1
    | exc c fs =>
      rw [e] at q1
      exact q1.elim
    | stuck =>
      rw [e] at q1
      exact q1.elim⟩
end
/-! ### what the module's names stand for -/
/-- the name x calls a def of n parameters that computes fm -/
def CallOk (P : Program) (w : World) (K : Frag) (mg : Str → Option Value) (base : Heap) (k : Nat) (x : Str) (d : He.DefD) (ps : List Str) (n : Nat) (fm : List D → Res D) : Prop := ∃ f fd, mg x = some (.ref f) ∧ PySem.W.keepIn K (.ref f) = true ∧ Binds K fd ps [] ∧ FnOk P w K mg base (L2N.CX P w) k f fd ps (spM K n fm) ∧ Ar n fm ∧ FunD K d.name d.qual d.params d.body d.scope [] [] f fd
theorem perm_cons {α : Type} {i : Nat} {π : List Nat} {ws : List α} : perm (i :: π) ws = match ws[i]? with | some a => a :: perm π ws | none => perm π ws := by
  unfold perm
  rw [List.filterMap_cons]
  cases ws[i]? <;> rfl
theorem perm_vals {zs : List V} {ws : List Value} (h : Vals zs ws) : ∀ π : List Nat, Vals (perm π zs) (perm π ws)
  | [] => .nil
  | i :: π => by
    rw [perm_cons, perm_cons]
    have hl := h.length
    by_cases hi : i < zs.length
    · have hi2 : i < ws.length := by omega
      obtain ⟨u, hu, ru⟩ := h.get (List.getElem?_eq_getElem hi)
      rw [List.getElem?_eq_getElem hi, hu]
      exact .cons ru (perm_vals h π)
    · rw [List.getElem?_eq_none (by omega), List.getElem?_eq_none (by omega)]
      exact perm_vals h π
theorem perm_rep {K : Frag} {A : AS} {H : Hp} {ds : List D} {vs : List V} (h : RepL K A H ds vs) : ∀ π : List Nat, RepL K A H (perm π ds) (perm π vs)
  | [] => by simp [perm, RepL]
  | i :: π => by
    rw [perm_cons, perm_cons]
    have hl := h.length
    by_cases hi : i < ds.length
    · obtain ⟨v, hv, rv⟩ := h.get (List.getElem?_eq_getElem hi)
      rw [List.getElem?_eq_getElem hi, hv]
      simp only [RepL]
      exact ⟨_, _, rfl, rv, perm_rep h π⟩
    · rw [List.getElem?_eq_none (by omega), List.getElem?_eq_none (by omega)]
      exact perm_rep h π
/-- the name cls makes an instance -/
def MakeOk (P : Program) (w : World) (K : Frag) (mg : Str → Option Value) (base : Heap) (k : Nat) (cls : String) (n : Nat) (fm : List D → Res D) : Prop := ∃ f fd ps, mg (Str.ofString cls) = some (.ref (ca K cls)) ∧ Mk K (ca K cls) f ∧ Binds K fd ps [] ∧ FnOk P w K mg base (L2N.CX P w) k f fd ps (spI K n cls fm) ∧ (∀ ds d, fm ds = .ok d → ds.length + 1 = n) ∧ ∀ ds c fs, fm ds = .exc c fs → ds.length + 1 = n
section
variable {X : Cx} {W : WX} {ow : Ow} {e : Expr} {es : List Expr} {am : AM} {pos p : Pos} {k j n : Nat} {x : Str} {fm : List D → Res D} {d : He.DefD} {ps : List Str}
theorem x_own1 (T : Ctx X W j) (C : CallOk X.prog X.w X.K X.mg X.base k x d ps n fm) (hk : k ≤ j) (hg : Gl X x) (ha : PA X (e :: es) (aE X.K W ow am)) (hdb : (x == ("__debug__" : Str)) = false := by decide)
    (he : starEach (e :: es) X.env = (false, eval e X.env) :: starEach es X.env := by rfl) (hpl : (backTo pos (starEach es X.env)).any (·.1) = false := by rfl) : PE X (.Call (.Name x p) (e :: es) [] pos) (tE X.K W ow (call fm am)) := by
  obtain ⟨f, fd, h1, h2, h3, h4, h5, _⟩ := C
  exact x_call T h4 h5 hk hg h1 h2 h3 ha hdb he hpl
theorem x_ownI (T : Ctx X W j) (C : CallOk X.prog X.w X.K X.mg X.base k x d ps n fm) (hk : k ≤ j) (hg : Gl X x) (ha : PA X (e :: es) (aW X.K W ow am)) (hdb : (x == ("__debug__" : Str)) = false := by decide)
    (he : starEach (e :: es) X.env = (false, eval e X.env) :: starEach es X.env := by rfl) (hpl : (backTo pos (starEach es X.env)).any (·.1) = false := by rfl) : PE X (.Call (.Name x p) (e :: es) [] pos) (tE X.K W ow (callI fm am)) := by
  obtain ⟨f, fd, h1, h2, h3, h4, h5, _⟩ := C
  exact x_callI T h4 h5 hk hg h1 h2 h3 ha hdb he hpl
theorem x_new {cls : String} (T : Ctx X W j) (hW : ∀ c d σ σ' H, W c d σ H → W c d σ' H) (C : MakeOk X.prog X.w X.K X.mg X.base k cls n fm) (hk : k + 1 ≤ j) (hg : Gl X (Str.ofString cls)) (ha : PA X (e :: es) (aE X.K W ow am)) (hdb : (Str.ofString cls == ("__debug__" : Str)) = false := by decide)
    (he : starEach (e :: es) X.env = (false, eval e X.env) :: starEach es X.env := by rfl) (hpl : (backTo pos (starEach es X.env)).any (·.1) = false := by rfl) : PE X (.Call (.Name (Str.ofString cls) p) (e :: es) [] pos) (tE X.K W ow (call fm am)) := by
  obtain ⟨f, fd, ps, h1, h2, h3, h4, h5, h6⟩ := C
  exact x_make T hW h2 h4 h5 h6 hk hg h1 h3 ha hdb he hpl
theorem xk_nil {R : RR} : PK X [] (tA R X.K W ow argN) := ⟨fun pos pins s σ H Q I ⟨A, H0, O, en, R', q⟩ => pk_nil.run pos pins s σ H Q I (q [] H (Same.refl H) .nil)⟩
theorem xk_cons {m : EM} {nm : Option Str} {kpos : Pos} {kws : List Keyword} (ha : PE X e (tE X.K W ow m)) (hr : PK X kws (aE X.K W ow am)) : PK X (⟨nm, e, kpos⟩ :: kws) (aE X.K W ow (argC m am)) :=
  ⟨fun pos pins s σ H Q I ⟨A, H0, O, en, R, q⟩ => (pk_cons ha hr).run pos pins s σ H Q I ⟨A, H0, O, en, R, (Out.bind q).good fun d q1 v H1 s1 r1 => ⟨A, H0, O, en, R.to s1, ((Out.bind q1).to s1).good fun ds q2 vs H2 s2 r2 =>
    q2 (v :: vs) H2 (s1.trans s2) (.cons (Rep.move (Mv.same s2) _ _ r1) r2)⟩⟩⟩
/-- f(k = v, ..), keywords alone -/
theorem x_kw {kws : List Keyword} {ks : List Str} {π : List Nat} (T : Ctx X W j) (C : CallOk X.prog X.w X.K X.mg X.base k x d ps n fm) (hk : k ≤ j) (hg : Gl X x) (hW : ∀ c d σ σ' H, W c d σ H → W c d σ' H)
    (hbind : ∀ (kV doc pm : Value) (an : Option Addr) (cdv ct : Value) (ws : List Value), ws.length = ks.length → bindArgs (PySem.W.fnOf d.name d.qual d.params d.body d.scope .none kV doc pm an cdv ct) ⟨[], ks.zip ws⟩ = pure (ps.zip (perm π ws))) (hkw : PK X kws (aE X.K W ow am)) (hlen : kws.length = ks.length := by rfl)
    (hall : (backToKw pos (keywordEach kws X.env)).all (·.1.isSome) = true := by rfl) (hks : (backToKw pos (keywordEach kws X.env)).filterMap (·.1) = ks := by rfl)
    (hdb : (x == ("__debug__" : Str)) = false := by decide) (hpl : ((backTo pos (starEach [] X.env)).any (·.1) || (backToKw pos (keywordEach kws X.env)).any (·.1.isNone)) = false := by rfl) :
    PE X (.Call (.Name x p) [] kws pos) (tE X.K W ow (call (kwc ks.length π fm) am)) := by
  obtain ⟨f, fd, hm, hkp, _, F, hn, FD⟩ := C
  have hb : KBn X.K fd ps 0 ks (fun _ ws => perm π ws) (fun _ zs => perm π zs) := by
    obtain ⟨oc, od, dV, kV, doc, pm, an, cdv, ct, osl, rfl, lk, hcd, hD, hK⟩ := FD.ex
    rcases hD with ⟨_, rfl⟩ | ⟨e, _⟩
    · refine ⟨fun s us ws X l1 l2 => ?_, fun r1 r2 => perm_vals r2 π⟩
      have : us = [] := List.length_eq_zero_iff.mp l1
      subst this
      exact .of_eq (hbind kV doc pm an cdv ct ws l2)
    · exact absurd rfl e
  refine ⟨fun pins s σ H Q I h => ?_⟩
  obtain ⟨A, H0, O, en, R, q⟩ := h
  refine wpAny_Call_Name_kw (ld_glob I hg hm ?_ hdb)
  refine PySem.W.callWith_KW0 (h₀ := X.base) I.ok.mod.kin hkp hall ?_ hpl
  refine thn (hkw.run pos pins s σ H (fun zs H1 => zs.length = ks.length ∧ spM X.K n fm (perm π zs) H1 Q fun c d H => ∀ σ', W c d σ' H) I ⟨A, H0, O, en, R, (Out.bind q).good fun ds q1 vs H1 s1 r1 => ?_⟩) fun ws s2 ⟨zs, H2, I2, rz, hl, q2⟩ => ⟨I2.kIn, ?_⟩
  · unfold kwc at q1
    by_cases hl : ds.length = ks.length
    · rw [if_pos hl] at q1
      have r2 := paired_rep r1
      refine ⟨r2.length.symm.trans hl, AO A O, perm π ds, perm_rep r2 π, ?_, (R.to s1).there, q1.imp (fun d _ k v H2 s2 r2 => k v H2 (s1.trans s2) r2) fun c fs z da H2 fvs s2 q2 r2 σ' => hW _ _ _ σ' _ (z da H2 fvs (s1.trans s2) q2 r2)⟩
      cases e : fm (perm π ds) with
      | ok d => exact hn.ok _ d e
      | exc c fs => exact hn.ex _ c fs e
      | stuck =>
        rw [e] at q1
        exact q1.elim
    · rw [if_neg hl] at q1
      exact q1.elim
  · rw [hks]
    exact run_fnN (us := []) (vs := []) F (T.hr.mono hk) hb (L2N.passes_call T.tk fun c d σ H h => h σ) I2 .nil rz rfl hl q2
end
/-! ### defs by the head's facts -/
section
variable {P : Program} {w : World} {K : Frag} {mg : Str → Option Value} {base : Heap} {k : Nat} {ow oN oB : Ow} {m : SM} {name qual : Str} {params : Arguments} {body : List Stmt} {scope : Scope} {f : Addr} {N ps : List Str} {p n : Nat}
theorem def_ok {d : He.DefD} (F : ∃ fd, FunD K d.name d.qual d.params d.body d.scope [] [] f fd) (g : mg d.name = some (.ref f)) (S : FnScope N ps d.scope) (hpl : ps.length = p) (hnl : N.length = n) (hp : ∀ i, i < p → ow i = false)
    (hbind : ∀ (kV doc pm : Value) (an : Option Addr) (cdv ct : Value) (us : List Value), us.length = ps.length → bindArgs (PySem.W.fnOf d.name d.qual d.params d.body d.scope .none kV doc pm an cdv ct) ⟨us, []⟩ = pure (ps.zip us))
    (hb : ∀ (cdv : Value) (A : Around) (outer : List PySem.Env) (s : Shared) (H : Hp) (E : XK), Ctx (cxOf (L2N.CX P w) P w K mg base N d.qual d.scope f cdv A outer s H E) (WD E) k →
      PSs (cxOf (L2N.CX P w) P w K mg base N d.qual d.scope f cdv A outer s H E) d.body (tS3 false K (WD E) ow oN oB m)) (hx : ow.x = none := by rfl) : CallOk P w K mg base (k + 1) d.name d ps p (fn p n m) := by
  obtain ⟨fd, F⟩ := F
  subst hpl hnl
  exact ⟨f, fd, g, F.kp, FunD.bindsN F hbind, fn_ok F S hx hp hb, ar_fn, F⟩
theorem ar_made {p n : Nat} {cls : String} {body : SM} : (∀ ds d, made p n cls body ds = .ok d → ds.length + 1 = p) ∧ ∀ ds c fs, made p n cls body ds = .exc c fs → ds.length + 1 = p := by
  refine ⟨fun ds d h => ?_, fun ds c fs h => ?_⟩ <;> (unfold made at h; split at h; (· assumption); (· cases h))
theorem cls_ok {cls : String} (F : ∃ fd, FunD K name qual params body scope [] [] f fd) (g : mg (Str.ofString cls) = some (.ref (ca K cls))) (M : Mk K (ca K cls) f) (S : FnScope N ps scope) (hpl : ps.length = p) (hnl : N.length = n) (h0 : ow 0 = true) (hp0 : 0 < p) (hp : ∀ i, i < p → 0 < i → ow i = false)
    (hbind : ∀ (kV doc pm : Value) (an : Option Addr) (cdv ct : Value) (us : List Value), us.length = ps.length → bindArgs (PySem.W.fnOf name qual params body scope .none kV doc pm an cdv ct) ⟨us, []⟩ = pure (ps.zip us))
    (hb : ∀ (cdv : Value) (A : Around) (outer : List PySem.Env) (s : Shared) (H : Hp) (E : XK), Ctx (cxOf (L2N.CX P w) P w K mg base N qual scope f cdv A outer s H E) (WD E) k →
      PSs (cxOf (L2N.CX P w) P w K mg base N qual scope f cdv A outer s H E) body (tS false K (WD E) ow m)) (hx : ow.x = none := by rfl) : MakeOk P w K mg base (k + 1) cls p (made p n cls m) := by
  obtain ⟨fd, F⟩ := F
  subst hpl hnl
  exact ⟨f, fd, ps, g, M, FunD.bindsN F hbind, init_ok F S hx h0 hp0 (fun i a b => hp i b a) hb, ar_made.1, ar_made.2⟩
end
/-! ### the head's facts, tables, and one more -/
section
open He
abbrev AlX : Type := AlT × Bool
def obsX (more : Frag → Bool) (fa : List Fa) (fn : List DefD) (ts : List Tab) (K : Frag) : AlX := (obsT fa fn ts K, more K)
def valX (fn : List DefD) (ts : List Tab) (w : World) : AlX := (valT fn ts w, true)
def obsXG (n : Nat) (more : Frag → Bool) (fa : List Fa) (fn : List DefD) (ts : List Tab) (g : Addr → Option Obj) : AlX := obsX more fa fn ts (frG g (asD g n))
def hookX (n : Nat) (more : Frag → Bool) (fa : List Fa) (fn : List DefD) (ts : List Tab) : PySem.W.Hook where
  α := AlX
  obs := fun s => obsXG n more fa fn ts s.heap.get?
  val := fun w => valX fn ts w
  says := fun w h => ∃ K : PySem.W.Frag, K.In h ∧ SaysT fa fn ts w K ∧ more K = true
  of := fun w s e => by
    have e1 : (obsT fa fn ts (frG s.heap.get? (asD s.heap.get? n)), more (frG s.heap.get? (asD s.heap.get? n))) = (valT fn ts w, true) := e
    exact ⟨_, frG_in, congrArg Prod.fst e1, congrArg Prod.snd e1⟩
  keeps := fun _ _ _ ⟨K, hK, c, m⟩ k => ⟨K, PySem.W.Frag.In.keeps hK k, c, m⟩
theorem obsXG_eq {n : Nat} {more : Frag → Bool} {fa : List Fa} {fn : List DefD} {ts : List Tab} {g : Addr → Option Obj} {s : Shared} (h : ∀ a, g a = s.heap.get? a) : obsXG n more fa fn ts g = (hookX n more fa fn ts).obs s := by
  have e : g = s.heap.get? := funext h
  rw [e] <;> rfl
end
/-! ### a table of texts -/
def TabOk (K : Frag) (w : World) (mg : Str → Option Value) (x : Str) (tab : List (String × Int)) : Prop :=
  ∃ d es n, mg x = some (.ref d) ∧ KDict K w d es n ∧ ∀ z : String, ∃ r, PySem.W.nsIn K d (Str.ofString z) = some r ∧ (tab.lookup z = none → r = none) ∧ ∀ i, tab.lookup z = some i → ∃ t, r = some (.int i t)
theorem lookup_mem {z : String} {i : Int} : ∀ {tab : List (String × Int)}, tab.lookup z = some i → (z, i) ∈ tab
  | [], h => by cases h
  | (y, j) :: r, h => by
    rw [List.lookup_cons] at h
    split at h
    · rename_i e
      have e1 : z = y := by simpa using e
      cases h
      subst e1
      exact List.mem_cons_self
    · exact List.mem_cons_of_mem _ (lookup_mem h)
theorem lookup_no {z : String} : ∀ {tab : List (String × Int)}, tab.lookup z = none → ∀ q ∈ tab, q.1 ≠ z
  | [], _, q, hq => by cases hq
  | (y, j) :: r, h, q, hq => by
    rw [List.lookup_cons] at h
    split at h
    · cases h
    · rename_i e
      rcases List.mem_cons.mp hq with e1 | hq
      · subst e1
        intro e2
        have e2 : y = z := e2
        subst e2
        simp at e
      · exact lookup_no h q hq
theorem tab_keys {P : Params} : ∀ {l : List DictEntry} {ks : List Str}, l.map He.keyOf = He.keysIn P ks → ∀ e ∈ l, ∃ k t, e.key = .str k t ∧ k ∈ ks
  | [], _, _, e, he => by cases he
  | e0 :: r, [], h, _, _ => by cases h
  | e0 :: r, k :: ks, h, e, he => by
    have h1 : He.keyOf e0 :: r.map He.keyOf = some (k, PyData.keyHash P k) :: He.keysIn P ks := h
    injection h1 with h2 h3
    rcases List.mem_cons.mp he with e1 | he
    · subst e1
      unfold He.keyOf at h2
      split at h2
      · rename_i x t q
        have h4 := Option.some.inj h2
        obtain ⟨h5, h6⟩ := Prod.mk.inj h4
        exact ⟨x, t, q, by rw [h5]; exact List.mem_cons_self⟩
      · cases h2
    · obtain ⟨k1, t, e1, m⟩ := tab_keys h3 e he
      exact ⟨k1, t, e1, List.mem_cons_of_mem _ m⟩
theorem tab_ok {K : Frag} {w : World} {mg : Str → Option Value} {x : Str} {tab : List (String × Int)} (hraw : He.dicW K (He.ga K x) = some (He.keysIn w.params (tab.map fun q => Str.ofString q.1))) (hv : He.valsB K (He.ga K x) (tab.map fun q => (Str.ofString q.1, He.Dv.int q.2)) = true) (hg : mg x = some (.ref (He.ga K x))) : TabOk K w mg x tab := by
  obtain ⟨es, n, D⟩ := He.dicW_ok hraw
  refine ⟨_, es, n, hg, D, fun z => ?_⟩
  cases e : tab.lookup z with
  | some i =>
    have m := lookup_mem e
    obtain ⟨u, h1, h2⟩ := He.valsB_ok hv (q := (Str.ofString z, He.Dv.int i)) (List.mem_map.mpr ⟨_, m, rfl⟩)
    refine ⟨_, h1, (fun q => nomatch q), fun j q => ?_⟩
    cases q
    obtain ⟨t, rfl⟩ := (show ∃ t, u = Value.int i t from h2)
    exact ⟨t, rfl⟩
  | none =>
    have no := lookup_no e
    have ks : es.toList.map He.keyOf = He.keysIn w.params (tab.map fun q => Str.ofString q.1) := by
      unfold He.dicW at hraw
      rw [D.at_] at hraw
      have low := D.low
      simp only [low, decide_true, Bool.true_and, Bool.not_false, Bool.and_true] at hraw
      simpa using hraw
    refine ⟨none, ?_, fun _ => rfl, fun j q => nomatch q⟩
    unfold PySem.W.nsIn
    rw [D.at_]
    have ef : es.toList.find? (·.key.isStr (Str.ofString z)) = none := by
      rw [List.find?_eq_none]
      intro ent hent h
      obtain ⟨k, t, e1, m⟩ := tab_keys ks ent hent
      rw [e1] at h
      obtain ⟨q, hq, e2⟩ := List.mem_map.mp m
      have e3 : k = Str.ofString z := by simpa [Value.isStr] using h
      exact no q hq (ofS_inj (e2.trans e3))
    have er : es.toList.any (·.refKey) = false := by
      rw [List.any_eq_false]
      intro ent hent h
      obtain ⟨k, t, e1, m⟩ := tab_keys ks ent hent
      simp [DictEntry.refKey, e1] at h
    simp only [ef, er]
    rfl
section
variable {X : Cx} {W : WX} {ow : Ow} {a : Expr} {ma : EM} {pos p : Pos} {tab : List (String × Int)} {nm : Str}
theorem x_has (T : TabOk X.K X.w X.mg nm tab) (hg : Gl X nm) (ha : PE X a (tE X.K W ow ma)) (hm : behindInMarks .In (.Name nm p) = false := by rfl) (hd : (nm == ("__debug__" : Str)) = false := by decide) : PE X (.Compare a [.In] [.Name nm p] pos) (tE X.K W ow (un (ohas tab) ma)) := by
  obtain ⟨d, es, n, h1, h2, h3⟩ := T
  refine PE.of (pe_cmpR (op_in_kd h2) ha (pe_glob (v := .ref d) hg h1 rfl hd) hm) fun σ H Q ⟨A, H0, O, en, R, q⟩ => ⟨A, H0, O, en, R, (Out.bind q).good fun d1 q1 v1 H1 s1 r1 => ?_⟩
  cases d1 with
  | str z =>
    obtain ⟨r, e, k1, k2⟩ := h3 z
    refine ⟨_, r, r1, rfl, e, ?_⟩
    have e2 : r.isSome = (tab.lookup z).isSome := by
      cases e3 : tab.lookup z with
      | none => rw [k1 e3] <;> rfl
      | some i =>
        obtain ⟨t, e4⟩ := k2 i e3
        rw [e4] <;> rfl
    rw [e2]
    exact q1 _ _ s1 rep_bl
  | _ => exact q1.elim
theorem x_nothas (T : TabOk X.K X.w X.mg nm tab) (hg : Gl X nm) (ha : PE X a (tE X.K W ow ma)) (hm : behindInMarks .NotIn (.Name nm p) = false := by rfl) (hd : (nm == ("__debug__" : Str)) = false := by decide) : PE X (.Compare a [.NotIn] [.Name nm p] pos) (tE X.K W ow (un (onothas tab) ma)) := by
  obtain ⟨d, es, n, h1, h2, h3⟩ := T
  refine PE.of (pe_cmpR (op_notIn_kd h2) ha (pe_glob (v := .ref d) hg h1 rfl hd) hm) fun σ H Q ⟨A, H0, O, en, R, q⟩ => ⟨A, H0, O, en, R, (Out.bind q).good fun d1 q1 v1 H1 s1 r1 => ?_⟩
  cases d1 with
  | str z =>
    obtain ⟨r, e, k1, k2⟩ := h3 z
    refine ⟨_, r, r1, rfl, e, ?_⟩
    have e2 : r.isSome = (tab.lookup z).isSome := by
      cases e3 : tab.lookup z with
      | none => rw [k1 e3] <;> rfl
      | some i =>
        obtain ⟨t, e4⟩ := k2 i e3
        rw [e4] <;> rfl
    rw [e2]
    exact q1 _ _ s1 rep_bl
  | _ => exact q1.elim
theorem t_has (T : TabOk X.K X.w X.mg nm tab) (hg : Gl X nm) (ha : PE X a (tE X.K W ow ma)) (hm : behindInMarks .In (.Name nm p) = false := by rfl) (hd : (nm == ("__debug__" : Str)) = false := by decide) : PT X (.Compare a [.In] [.Name nm p] pos) (tT X.K W ow (tst (un (ohas tab) ma))) := by
  obtain ⟨d, es, n, h1, h2, h3⟩ := T
  refine PT.of (pt_cmpR (op_in_kd h2) ha (pe_glob (v := .ref d) hg h1 rfl hd) hm) fun σ H Q ⟨A, H0, O, en, R, q⟩ => ⟨A, H0, O, en, R, (Out.bind (Out.bind q)).good fun d1 q1 v1 H1 s1 r1 => ?_⟩
  cases d1 with
  | str z =>
    obtain ⟨r, e, k1, k2⟩ := h3 z
    refine ⟨_, r, r1, rfl, e, _, rfl, ?_⟩
    have e2 : r.isSome = (tab.lookup z).isSome := by
      cases e3 : tab.lookup z with
      | none => rw [k1 e3] <;> rfl
      | some i =>
        obtain ⟨t, e4⟩ := k2 i e3
        rw [e4] <;> rfl
    rw [e2]
    exact q1 _ s1
  | _ => exact q1.elim
theorem t_nothas (T : TabOk X.K X.w X.mg nm tab) (hg : Gl X nm) (ha : PE X a (tE X.K W ow ma)) (hm : behindInMarks .NotIn (.Name nm p) = false := by rfl) (hd : (nm == ("__debug__" : Str)) = false := by decide) : PT X (.Compare a [.NotIn] [.Name nm p] pos) (tT X.K W ow (tst (un (onothas tab) ma))) := by
  obtain ⟨d, es, n, h1, h2, h3⟩ := T
  refine PT.of (pt_cmpR (op_notIn_kd h2) ha (pe_glob (v := .ref d) hg h1 rfl hd) hm) fun σ H Q ⟨A, H0, O, en, R, q⟩ => ⟨A, H0, O, en, R, (Out.bind (Out.bind q)).good fun d1 q1 v1 H1 s1 r1 => ?_⟩
  cases d1 with
  | str z =>
    obtain ⟨r, e, k1, k2⟩ := h3 z
    refine ⟨_, r, r1, rfl, e, _, rfl, ?_⟩
    have e2 : r.isSome = (tab.lookup z).isSome := by
      cases e3 : tab.lookup z with
      | none => rw [k1 e3] <;> rfl
      | some i =>
        obtain ⟨t, e4⟩ := k2 i e3
        rw [e4] <;> rfl
    rw [e2]
    exact q1 _ s1
  | _ => exact q1.elim
theorem b_has : ∀ x d, ohas tab x = .ok d → ∃ k, d = .bl k := fun x d h => by
  cases x <;> simp only [ohas, Res.ok.injEq, reduceCtorEq] at h
  exact ⟨_, h.symm⟩
theorem b_nothas : ∀ x d, onothas tab x = .ok d → ∃ k, d = .bl k := fun x d h => by
  cases x <;> simp only [onothas, Res.ok.injEq, reduceCtorEq] at h
  exact ⟨_, h.symm⟩
theorem x_look (T : TabOk X.K X.w X.mg nm tab) (hg : Gl X nm) (ha : PE X a (tE X.K W ow ma)) (hs : PlainIx a := by exact fun _ _ => rfl) (hd : (nm == ("__debug__" : Str)) = false := by decide) : PE X (.Subscript (.Name nm p) a pos) (tE X.K W ow (un (olook tab) ma)) := by
  obtain ⟨d, es, n, h1, h2, h3⟩ := T
  refine PE.of (pe_ix ix_kdict (pe_glob (v := .ref d) hg h1 rfl hd) ha hs) fun σ H Q ⟨A, H0, O, en, R, q⟩ => ?_
  refine (⟨A, H0, O, en, R, (Out.bind q).good fun d1 q1 v1 H1 s1 r1 => ?_⟩ : tE X.K W ow ma σ H _)
  cases d1 with
  | str z =>
    obtain ⟨r, e, k1, k2⟩ := h3 z
    cases e3 : tab.lookup z with
    | none =>
      simp only [olook, e3, opt, Option.map_none] at q1
      exact q1.elim
    | some i =>
      obtain ⟨t, e4⟩ := k2 i e3
      subst e4
      simp only [olook, e3, opt, Option.map_some] at q1
      exact ⟨d, Str.ofString z, .int i, rfl, r1, ⟨es, n, _, h2.at_, h2.lit, e, ⟨t, rfl⟩⟩, q1 _ _ s1 (flat_rep (d := .int i) rfl _ _)⟩
  | _ => exact q1.elim
end
/-! ### append -/
theorem s_app1 {fr : Bool} {X : Cx} {W : WX} {ow : Ow} {i : Nat} {o e : Expr} {m : EM} {apos cpos pos : Pos} (ho : PE X o (tVar i)) (h : PE X e (tE X.K W ow m)) (hi : ow i = true)
    (hbase : attributeBase o "append" X.env (eval o X.env) = eval o X.env := by rfl)
    (hfew : ((backTo cpos (starEach [e] X.env)).all (fun x => !x.1) && (backToKw cpos (keywordEach [] X.env)).all (fun x => x.1.isSome)
      && decide (([e] : List Expr).length + ([] : List Keyword).length + (if ([] : List Keyword).isEmpty then 0 else 1) < 30)) = true := by rfl)
    (hline : (apos.endLine == cpos.line) = true := by rfl) (hs : starEach [e] X.env = [(false, eval e X.env)] := by rfl)
    (hsw : swapsWith (.Call (.Attribute o "append" apos) [e] [] cpos) none pos.line X.env = pure false := by rfl) :
    PS X (.Expr (.Call (.Attribute o "append" apos) [e] [] cpos) pos) (tS fr X.K W ow (app i m)) :=
  s_app (ps_expr (pe_bm PySem.F.plainAttrs_list PySem.F.slot_list_append PySem.F.type_list_append mt_append ho (pa_cons h pa_nil hs) hbase hfew hline hs (by rfl)) hsw) hi
/-! ### code that is not reached -/
theorem s_dead {fr : Bool} {X : Cx} {W : WX} {ow : Ow} {st : Stmt} : PS X st (tS fr X.K W ow dead) := ⟨fun pins s σ H D I ⟨A, H0, O, en, R, q⟩ => (q : False).elim⟩
theorem x_dead {X : Cx} {W : WX} {ow : Ow} {a : Expr} : PE X a (tE X.K W ow deadE) := ⟨fun pins s σ H Q I ⟨A, H0, O, en, R, q⟩ => (q : False).elim⟩
/-! ### the law -/
end Py

/-! What a head tells, in one place; the law's end. -/
namespace Py
open PySem L2
open He (Fa DefD Tab)
theorem Ctx.eq {X : Cx} {W : WX} {k : Nat} (T : Ctx X W k) : OpR X (compareOp .Eq) (r2 X.K oeq) := y_eq (by have := T.hr.un; omega)
theorem Ctx.ne {X : Cx} {W : WX} {k : Nat} (T : Ctx X W k) : OpR X (compareOp .NotEq) (r2 X.K one) := y_ne (by have := T.hr.un; omega)
theorem ss_dead {fr : Bool} {X : Cx} {W : WX} {ow : Ow} {st : List Stmt} : PSs X st (tS fr X.K W ow dead) := ⟨fun pins s σ H D I ⟨A, H0, O, en, R, q⟩ => (q : False).elim⟩
theorem hv_len : bootBuiltins "len" = some (.builtin "len") := by decide +kernel
theorem hv_sum : bootBuiltins "sum" = some (.builtin "sum") := by decide +kernel
theorem hv_all : bootBuiltins "all" = some (.builtin "all") := by decide +kernel
theorem hv_any : bootBuiltins "any" = some (.builtin "any") := by decide +kernel
theorem hv_max : bootBuiltins "max" = some (.builtin "max") := by decide +kernel
theorem hv_min : bootBuiltins "min" = some (.builtin "min") := by decide +kernel
theorem hv_abs : bootBuiltins "abs" = some (.builtin "abs") := by decide +kernel
theorem hv_int : bootBuiltins "int" = some (.type "int") := by decide +kernel
theorem hv_tuple : bootBuiltins "tuple" = some (.type "tuple") := by decide +kernel
theorem hv_list : bootBuiltins "list" = some (.type "list") := by decide +kernel
theorem hv_bool : bootBuiltins "bool" = some (.type "bool") := by decide +kernel
theorem hv_str : bootBuiltins "str" = some (.type "str") := by decide +kernel
theorem hv_dict : bootBuiltins "dict" = some (.type "dict") := by decide +kernel
theorem h_iadd {K : Frag} : ∀ x y H Q, r2 K oiadd x y H Q → ipI (fun i j => i + j) x y H Q := fun x y H Q ⟨A, d1, d2, d, h1, h2, _, e, k⟩ => by
  cases d1 <;> cases d2 <;> simp only [oiadd, Res.ok.injEq, reduceCtorEq] at e
  subst e
  exact ⟨_, _, h1, h2, k _ H (Same.refl H) (flat_rep (d := .int _) rfl _ _)⟩
theorem h_isub {K : Frag} : ∀ x y H Q, r2 K oisub x y H Q → ipI (fun i j => i - j) x y H Q := fun x y H Q ⟨A, d1, d2, d, h1, h2, _, e, k⟩ => by
  cases d1 <;> cases d2 <;> simp only [oisub, Res.ok.injEq, reduceCtorEq] at e
  subst e
  exact ⟨_, _, h1, h2, k _ H (Same.refl H) (flat_rep (d := .int _) rfl _ _)⟩
theorem n_iadd : NoEx2 oiadd := fun x y c fs => by cases x <;> cases y <;> exact fun z => nomatch z
theorem n_isub : NoEx2 oisub := fun x y c fs => by cases x <;> cases y <;> exact fun z => nomatch z
/-! ### the list objects left out -/
def notList (o : Obj) : Bool := match o.cls with
  | .type c => !(decide (c = "list"))
  | _ => true
def noL (K : Frag) : Bool := K.all fun q => notList q.2
theorem klookup_mem {a : Addr} {o : Obj} : ∀ {l : List (Addr × Obj)}, l.lookup a = some o → (a, o) ∈ l
  | [], h => by cases h
  | (b, u) :: r, h => by
    rw [List.lookup_cons] at h
    split at h
    · rename_i e
      have e1 : a = b := by simpa using e
      cases h
      subst e1
      exact List.mem_cons_self
    · exact List.mem_cons_of_mem _ (klookup_mem h)
theorem sqL_rd {K : Frag} (h : noL K = true) {H : Hp} {a : Addr} {vs : List V} (q : SqL K H a vs) : Rd H a (.lst vs) := by
  rcases q with q | ⟨o, its, n, hk, hc, _⟩
  · exact q
  · have m := List.all_eq_true.mp h _ (klookup_mem hk)
    simp [notList, hc] at m
/-! ### facts -/
structure Facts (fa : List Fa) (fn : List DefD) (ts : List Tab) (ms : List (Frag → Bool)) (w : World) (K : Frag) (mg : Str → Option Value) : Prop where
  c : He.SaysT fa fn ts w K
  m : (noL K && ms.all fun m => m K) = true
  h : ∃ h : Heap, K.In h ∧ h.Ns mainGlobals mg
section
variable {fa : List Fa} {fn : List DefD} {ts : List Tab} {ms : List (Frag → Bool)} {w : World} {K : Frag} {mg : Str → Option Value}
theorem Facts.glo (Y : Facts fa fn ts ms w K mg) (i : Nat) {x : Str} (h : fa[i]? = some (.glo x) := by rfl) : mg x = some (.ref (He.ga K x)) := by
  obtain ⟨_, KX, G⟩ := Y.h
  exact He.glo_ok KX G (Y.c.d.fact i h)
theorem Facts.free (Y : Facts fa fn ts ms w K mg) (i : Nat) {x : Str} (h : fa[i]? = some (.free x) := by rfl) : mg x = none := by
  obtain ⟨_, KX, G⟩ := Y.h
  exact He.free_ok KX G (Y.c.d.fact i h)
theorem Facts.mkr (Y : Facts fa fn ts ms w K mg) (i : Nat) {x : String} (h : fa[i]? = some (.mkr (Str.ofString x)) := by rfl) : Mk K (ca K x) (He.ma K (ca K x) "__init__") := He.mkr_ok (Y.c.d.fact i h)
theorem Facts.def_ (Y : Facts fa fn ts ms w K mg) (i : Nat) {d : DefD} (h : fn[i]? = some d := by rfl) : ∃ fd, FunD K d.name d.qual d.params d.body d.scope (d.dvs K) (d.kws K) (He.fAd K d.at_) fd := Y.c.d.def_ i h
theorem Facts.more (Y : Facts fa fn ts ms w K mg) (i : Nat) {m : Frag → Bool} (h : ms[i]? = some m := by rfl) : m K = true := by
  have q := Y.m
  rw [Bool.and_eq_true] at q
  exact List.all_eq_true.mp q.2 m (List.mem_of_getElem? h)
theorem Facts.noL (Y : Facts fa fn ts ms w K mg) : noL K = true := by
  have q := Y.m
  rw [Bool.and_eq_true] at q
  exact q.1
/-- a field's classes -/
def attB (cs : List String) (f : String) (K : Frag) : Bool := cs.all fun c => (Fa.cls (Str.ofString c)).ok K && (Fa.noat (Str.ofString c) (Str.ofString f)).ok K
theorem att_ok {cs : List String} {f : String} (h : attB cs f K = true) : ∀ c ∈ cs, Cls K (ca K c) ∧ NoAttr K (ca K c) (Str.ofString f) := fun c hc => by
  have q := List.all_eq_true.mp h c hc
  rw [Bool.and_eq_true] at q
  exact ⟨He.cls_ok q.1, He.noat_ok q.2⟩
def kitC (cs : List String) (K : Frag) : Bool := kitB K cs
/-- a table of texts -/
def tabB (x : String) (tab : List (String × Int)) (K : Frag) : Bool := He.valsB K (He.ga K (Str.ofString x)) (tab.map fun q => (Str.ofString q.1, He.Dv.int q.2))
def tabT (x : String) (tab : List (String × Int)) : Tab := (fun K => He.ga K (Str.ofString x), tab.map fun q => Str.ofString q.1)
theorem Facts.tab (Y : Facts fa fn ts ms w K mg) {x : String} {tab : List (String × Int)} (i j k : Nat) (h1 : ts[i]? = some (tabT x tab) := by rfl) (h2 : ms[j]? = some (tabB x tab) := by rfl) (h3 : fa[k]? = some (.glo (Str.ofString x)) := by rfl) : TabOk K w mg (Str.ofString x) tab := by
  refine tab_ok ?_ (Y.more j h2) (Y.glo k h3)
  have e : ts.map (fun t => He.dicW K (t.1 K)) = ts.map fun t => some (He.keysIn w.params t.2) := congrArg (fun z : He.AlT => z.2) Y.c
  have e2 : (ts.map fun t => He.dicW K (t.1 K))[i]? = (ts.map fun t => some (He.keysIn w.params t.2))[i]? := by rw [e]
  rw [List.getElem?_map, List.getElem?_map, h1] at e2
  exact Option.some.inj e2
end
/-! ### the law's def -/
section
variable {P : Program} {w : World} {K : Frag} {mg : Str → Option Value} {k : Nat} {ow oN oB : Ow} {m : SM} {qual : Str} {params : Arguments} {body : List Stmt} {scope : Scope} {f : Addr} {N : List Str} {n : Nat}
theorem law_ok (F : ∃ fd, FunD K "law" qual params body scope [] [] f fd) (S : FnScope N ["script"] scope) (hnl : N.length = n) (hp : ow 0 = false)
    (hbind : ∀ (kV doc pm : Value) (an : Option Addr) (cdv ct : Value) (us : List Value), us.length = 1 → bindArgs (PySem.W.fnOf "law" qual params body scope .none kV doc pm an cdv ct) ⟨us, []⟩ = pure ((["script"] : List Str).zip us))
    (hb : ∀ (base : Heap) (cdv : Value) (A : Around) (outer : List PySem.Env) (s : Shared) (H : Hp) (E : XK), Ctx (cxOf (L2N.CX P w) P w K mg base N qual scope f cdv A outer s H E) (WD E) k →
      PSs (cxOf (L2N.CX P w) P w K mg base N qual scope f cdv A outer s H E) body (tS3 false K (WD E) ow oN oB m)) (hx : ow.x = none := by rfl) :
    ∃ fd : FuncData, (∀ (s : Shared) (u : Value), BindsTo s fd ⟨[u], []⟩ [("script", u)]) ∧ ∀ base : Heap, FnOk P w K mg base (L2N.CX P w) (k + 1) f fd ["script"] (spM K 1 (fn 1 n m)) := by
  obtain ⟨fd, F⟩ := F
  subst hnl
  have b := FunD.bindsA (ps := ["script"]) F hbind
  exact ⟨fd, fun s v => b s [v] rfl, fun base => fn_ok F S hx (fun i hi => by
    have : i = 0 := by simpa using hi
    subst this
    exact hp) (hb base)⟩
theorem ints_rep {K : Frag} {A : AS} {H : Hp} : ∀ ns : List Int, RepL K A H (ns.map D.int) (ns.map V.int)
  | [] => by simp [RepL]
  | n :: ns => by
    simp only [List.map_cons, RepL]
    exact ⟨_, _, rfl, rfl, ints_rep ns⟩
/-- what escapes nothing can be handed out -/
theorem cx_none {P : Program} {w : World} {H : Hp} {s : Shared} {e : Value} {s' : Shared} (h : L2N.CX P w [] H s (fun _ _ _ => False) e s') : False := by
  obtain ⟨a, B, H', cls, d, rfl, fl, hok, ub, na, os, ag, hE⟩ := h
  exact hE
open PyProof.Rows in
theorem walk_ofW {l : PySem.W.OpenLaw} {n k : Nat} {q : Program} {loose : List Str} {XP : (Str → Option Value) → Heap → Prop} {YP : World → Heap → Prop} {d : DefRec} {CX : World → CXT} {x : Str}
    (hn : l.most = some n) (hn2 : n ≤ sizeLine) (hdf : d.params.defaults = []) (hr : Room k callerA)
    (F : ∀ (w : World) (mg : Str → Option Value) (fa : Addr) (h : Heap), YP w h → h.Ns mainGlobals mg → mg d.name = some (.ref fa) →
      ∃ (K : PySem.W.Frag) (fd : FuncData) (sp : Sp), K.In h ∧ (∀ (s : Shared) (u : Value), BindsTo s fd ⟨[u], []⟩ [(x, u)]) ∧
        (∀ (H : Hp) (a : Addr) (ns : List Int), ns.length ≤ n → Only H → SqL K H a (ns.map V.int) → sp [.ref a] H (fun v _ => v = .bl true) fun _ _ _ => False) ∧
        ∀ base : Heap, K.In base → base.Ns mainGlobals mg → FnOk l.prog w K mg base (CX w) k fa fd [x] sp)
    (hCX : ∀ (w : World) (H : Hp) (s : Shared) (e : Value) (s' : Shared), CX w [] H s (fun _ _ _ => False) e s' → False) :
    PySem.W.WalkO q loose XP YP l.row.toRowW d [] (fun f vs => PySem.call f vs) := by
  refine Att.attach_call hn hdf fun w s₀ s₁ mg mb fa o pm cd doc a vs ns G Y ho hd hcd hmg hobj hints hlen hg => ?_
  obtain ⟨K, fd, sp, KX, hb, hsp, hF⟩ := F w mg fa _ Y G.T.g hmg
  exact law_call KX G.T.g G.T.b G.T.builtins G.T.nolimit hg hobj hints (Nat.le_trans hlen hn2) hr hF hb (fun H hO hS => hsp H a ns hlen hO hS) fun H e s' => hCX w H s₁ e s'
/-- what the law computes is True: the law holds -/
theorem sp_law {K : Frag} {fm : List D → Res D} (hL : noL K = true) {H : Hp} {a : Addr} {ns : List Int} (hm : fm [.lst (ns.map .int)] = .ok (.bl true)) (hS : SqL K H a (ns.map V.int)) :
    spM K 1 fm [.ref a] H (fun v _ => v = .bl true) fun _ _ _ => False := by
  refine ⟨fun _ => False, [.lst (ns.map .int)], ?_, rfl, fun _ h => h.elim, ?_⟩
  · simp only [RepL]
    refine ⟨_, _, rfl, ?_, rfl⟩
    simp only [Rep]
    exact ⟨a, _, rfl, id, sqL_rd hL hS, ints_rep ns⟩
  · rw [hm]
    exact fun v H' _ r => r
end
end Py

/-! Methods of own classes, zip, constants of the module, |=. -/
namespace Py
open PySem L2
open He (Fa DefD Tab)
/-! ### methods -/
structure MethOk (P : Program) (w : World) (K : Frag) (mg : Str → Option Value) (base : Heap) (k : Nat) (cls mn : String) (n : Nat) (fm : List D → Res D) : Prop where
  ex : ∃ f fd ps, Cls K (ca K cls) ∧ Meth K (ca K cls) (Str.ofString mn) f ∧ Binds K fd ps [] ∧ FnOk P w K mg base (L2N.CX P w) k f fd ps (spM K n fm) ∧ Ar n fm
section
variable {X : Cx} {W : WX} {ow : Ow} {o e : Expr} {es : List Expr} {ma : EM} {am : AM} {pos apos : Pos} {k j n : Nat} {cls mn : String} {fm : List D → Res D}
theorem meth_of {C : Addr} {m : Str} {fm : List D → Res D} (hC : C = ca X.K cls) (hm : m = Str.ofString mn) (hn : Ar n fm) (hW : ∀ c d σ σ' H, W c d σ H → W c d σ' H) {σ : L2.St} {H : Hp} {Q : VK}
    (h : tE X.K W ow (callM cls mn fm ma am) σ H Q) : tMeth C m (spM X.K n fm) [] (fun c d H => ∀ σ, W c d σ H) (tE X.K W ow ma) (aE X.K W ow am) σ H Q := by
  subst hC hm
  obtain ⟨A, H0, O, en, R, q⟩ := h
  refine ⟨A, H0, O, en, R, (Out.bind q).good fun d q1 v H1 s1 r1 => ?_⟩
  cases d with
  | ins c' fs =>
    simp only at q1
    split at q1
    · rename_i hc
      obtain ⟨rfl, hl⟩ := hc
      obtain ⟨p, dx, fvs, rfl, na, q2, r2⟩ := (by simpa only [Rep] using r1 : ∃ a dx fvs, v = .ref a ∧ ¬ AO A O a ∧ H1 a = some (.ins (ca X.K c') dx fvs) ∧ RepF X.K (AO A O) H1 fs fvs)
      have lk := r2.look (f := mn)
      have hl2 : fs.lookup mn = none := Option.isNone_iff_eq_none.mp hl
      rw [hl2] at lk
      refine ⟨p, dx, fvs, rfl, q2, lk, A, H0, O, en, R.to s1, ((Out.bind q1).to s1).good fun ds q3 vs H2 s2 r3 => ?_⟩
      dsimp only
      rw [List.append_nil]
      refine ⟨AO A O, .ins c' fs :: ds, ?_, ?_, ((R.to s1).to s2).there, q3.imp (fun d _ k v H3 s3 r3 => k v H3 ((s1.trans s2).trans s3) r3) fun c fs2 z da H3 fvs2 s3 q4 r4 σ' => hW _ _ _ σ' _ (z da H3 fvs2 ((s1.trans s2).trans s3) q4 r4)⟩
      · simp only [RepL]
        exact ⟨_, vs, rfl, Rep.move (Mv.same s2) _ _ r1, paired_rep r3⟩
      · cases e : fm (.ins c' fs :: ds) with
        | ok d => exact hn.ok _ d e
        | exc c fs => exact hn.ex _ c fs e
        | stuck =>
          rw [e] at q3
          exact q3.elim
    · exact q1.elim
  | _ => exact q1.elim
theorem x_meth {pl : Sem Bool} {m : Str} (hm : m = Str.ofString mn) (T : Ctx X W j) (C : MethOk X.prog X.w X.K X.mg X.base k cls mn n fm) (hk : k ≤ j) (hW : ∀ c d σ σ' H, W c d σ H → W c d σ' H) (ho : PE X o (tE X.K W ow ma)) (ha : PA X (e :: es) (aE X.K W ow am))
    (hst : starEach (e :: es) X.env = (false, eval e X.env) :: starEach es X.env := by rfl) (hpl : (backTo pos (starEach es X.env)).any (·.1) = false := by rfl)
    (ht : eval (.Call (.Attribute o m apos) (e :: es) [] pos) X.env = (do
      let ov ← eval o X.env
      standAt apos.atName
      let (f, first) ← holding [ov] (getMethod ov m pl)
      callWith pos f first (backTo pos (starEach (e :: es) X.env)) (backToKw pos (keywordEach [] X.env))) := by rfl) :
    PE X (.Call (.Attribute o m apos) (e :: es) [] pos) (tE X.K W ow (callM cls mn fm ma am)) := by
  obtain ⟨f, fd, ps, h1, h2, h3, h4, h5⟩ := C.ex
  subst hm
  exact PE.of (pe_meth (E := fun c d H => ∀ σ, W c d σ H) ho h1 h2 h4 (T.hr.mono hk) h3 .nil (L2N.passes_call T.tk fun c d σ H h => h σ) ha hst hpl ht) fun σ H Q h => meth_of rfl rfl h5 hW h
theorem x_meth0 {pl : Sem Bool} {m : Str} (hm : m = Str.ofString mn) (T : Ctx X W j) (C : MethOk X.prog X.w X.K X.mg X.base k cls mn n fm) (hk : k ≤ j) (hW : ∀ c d σ σ' H, W c d σ H → W c d σ' H) (ho : PE X o (tE X.K W ow ma))
    (ht : eval (.Call (.Attribute o m apos) [] [] pos) X.env = (do
      let ov ← eval o X.env
      standAt apos.atName
      let (f, first) ← holding [ov] (getMethod ov m pl)
      callWith pos f first (backTo pos (starEach [] X.env)) (backToKw pos (keywordEach [] X.env))) := by rfl) :
    PE X (.Call (.Attribute o m apos) [] [] pos) (tE X.K W ow (callM cls mn fm ma argN)) := by
  obtain ⟨f, fd, ps, h1, h2, h3, h4, h5⟩ := C.ex
  subst hm
  refine PE.of (pe_meth0 (E := fun c d H => ∀ σ, W c d σ H) ho h1 h2 h4 (T.hr.mono hk) h3 .nil (L2N.passes_call T.tk fun c d σ H h => h σ) ht) fun σ H Q h => ?_
  obtain ⟨A, H0, O, en, R, q⟩ := meth_of (C := ca X.K cls) rfl rfl h5 hW h
  refine ⟨A, H0, O, en, R, q.good fun d k v H1 s1 r1 => ?_⟩
  obtain ⟨a, dx, fs, e1, e2, e3, A1, H01, O1, en1, R1, q1⟩ := k v H1 s1 r1
  exact ⟨a, dx, fs, e1, e2, e3, q1 [] H1 (Same.refl H1) .nil⟩
end
section
variable {P : Program} {w : World} {K : Frag} {mg : Str → Option Value} {base : Heap} {k : Nat} {ow oN oB : Ow} {m : SM} {f : Addr} {N ps : List Str} {p n : Nat} {cls mn : String}
theorem meth_def {d : He.DefD} (F : ∃ fd, FunD K d.name d.qual d.params d.body d.scope [] [] f fd) (hc : Cls K (ca K cls)) (hme : Meth K (ca K cls) (Str.ofString mn) f) (S : FnScope N ps d.scope) (hpl : ps.length = p) (hnl : N.length = n) (hp : ∀ i, i < p → ow i = false)
    (hbind : ∀ (kV doc pm : Value) (an : Option Addr) (cdv ct : Value) (us : List Value), us.length = ps.length → bindArgs (PySem.W.fnOf d.name d.qual d.params d.body d.scope .none kV doc pm an cdv ct) ⟨us, []⟩ = pure (ps.zip us))
    (hb : ∀ (cdv : Value) (A : Around) (outer : List PySem.Env) (s : Shared) (H : Hp) (E : XK), Ctx (cxOf (L2N.CX P w) P w K mg base N d.qual d.scope f cdv A outer s H E) (WD E) k →
      PSs (cxOf (L2N.CX P w) P w K mg base N d.qual d.scope f cdv A outer s H E) d.body (tS3 false K (WD E) ow oN oB m)) (hx : ow.x = none := by rfl) : MethOk P w K mg base (k + 1) cls mn p (fn p n m) := by
  obtain ⟨fd, F⟩ := F
  subst hpl hnl
  exact ⟨f, fd, ps, hc, hme, FunD.bindsN F hbind, fn_ok F S hx hp hb, ar_fn⟩
end
section
variable {fa : List Fa} {fn : List DefD} {ts : List Tab} {ms : List (Frag → Bool)} {w : World} {K : Frag} {mg : Str → Option Value}
theorem Facts.cls (Y : Facts fa fn ts ms w K mg) (i : Nat) {x : String} (h : fa[i]? = some (.cls (Str.ofString x)) := by rfl) : Cls K (ca K x) := He.cls_ok (Y.c.d.fact i h)
theorem Facts.meth (Y : Facts fa fn ts ms w K mg) (i : Nat) {x : String} {m : Str} (h : fa[i]? = some (.meth (Str.ofString x) m) := by rfl) : Meth K (ca K x) m (He.ma K (ca K x) m) := He.meth_ok (Y.c.d.fact i h)
theorem Facts.int (Y : Facts fa fn ts ms w K mg) (i : Nat) {x : Str} {z : Int} (h : fa[i]? = some (.int x z) := by rfl) : ∃ t, mg x = some (.int z t) := by
  obtain ⟨_, KX, G⟩ := Y.h
  exact He.int_ok KX G (Y.c.d.fact i h)
theorem Facts.str (Y : Facts fa fn ts ms w K mg) (i : Nat) {x z : Str} (h : fa[i]? = some (.str x z) := by rfl) : ∃ t, mg x = some (.str z t) := by
  obtain ⟨_, KX, G⟩ := Y.h
  exact He.str_ok KX G (Y.c.d.fact i h)
/-- a flat tuple of the module -/
def dvOf : D → Option He.Dv
  | .non => some .non
  | .bl b => some (.bl b)
  | .int i => some (.int i)
  | .str s => some (.str (Str.ofString s))
  | _ => none
def dvsOf : List D → List He.Dv
  | [] => []
  | d :: r => (dvOf d).getD .non :: dvsOf r
def tupC (x : String) (ds : List D) (K : Frag) : Bool := He.tupB K (Str.ofString x) (dvsOf ds)
theorem dv_rep {A : AS} {H : Hp} {d : D} (h : flatD d = true) : Rep K A H d (((dvOf d).getD .non).v K) := by
  cases d <;> first | rfl | cases h
theorem dvs_rep {A : AS} {H : Hp} : ∀ {ds : List D}, ds.all flatD = true → RepL K A H ds ((dvsOf ds).map (He.Dv.v K))
  | [], _ => by simp [RepL, dvsOf]
  | d :: ds, h => by
    simp only [List.all_cons, Bool.and_eq_true] at h
    simp only [dvsOf, List.map_cons, RepL]
    exact ⟨_, _, rfl, dv_rep h.1, dvs_rep h.2⟩
end
section
variable {X : Cx} {W : WX} {ow : Ow} {x : Str} {pos : Pos}
theorem x_gint {i : Int} (hg : Gl X x) (hm : ∃ t, X.mg x = some (.int i t)) (hd : (x == ("__debug__" : Str)) = false := by decide) : PE X (.Name x pos) (tE X.K W ow (cst (.int i))) := by
  obtain ⟨t, hm⟩ := hm
  exact x_cst (v := .int i) (pe_glob hg hm ⟨t, rfl⟩ hd) rfl
theorem x_gstr {s : String} (hg : Gl X x) (hm : ∃ t, X.mg x = some (.str (Str.ofString s) t)) (hd : (x == ("__debug__" : Str)) = false := by decide) : PE X (.Name x pos) (tE X.K W ow (cst (.str s))) := by
  obtain ⟨t, hm⟩ := hm
  exact x_cst (v := .str (Str.ofString s)) (pe_glob hg hm ⟨t, rfl⟩ hd) rfl
theorem x_gtup {y : String} {ds : List D} (hy : x = Str.ofString y) (hg : Gl X x) (hm : X.mg x = some (.ref (He.ga X.K x))) (hc : tupC y ds X.K = true) (hf : ds.all flatD = true) (hd : (x == ("__debug__" : Str)) = false := by decide) : PE X (.Name x pos) (tE X.K W ow (cst (.tup ds))) := by
  subst hy
  refine PE.of (pe_glob (v := .ref (He.ga X.K (Str.ofString y))) hg hm rfl hd) fun σ H Q ⟨A, H0, O, en, R, q⟩ => ?_
  refine q _ H (Same.refl H) ?_
  simp only [Rep]
  exact ⟨_, _, rfl, He.tupB_ok hc H, dvs_rep hf⟩
end
/-! ### another name of a def -/
def aliasB (y x : String) (K : Frag) : Bool := decide (He.ga K (Str.ofString y) = He.ga K (Str.ofString x))
theorem CallOk.alias {P : Program} {w : World} {K : Frag} {mg : Str → Option Value} {base : Heap} {k n : Nat} {x y : String} {d : He.DefD} {ps : List Str} {fm : List D → Res D} (C : CallOk P w K mg base k (Str.ofString x) d ps n fm) (h : aliasB y x K = true)
    (gx : mg (Str.ofString x) = some (.ref (He.ga K (Str.ofString x)))) (gy : mg (Str.ofString y) = some (.ref (He.ga K (Str.ofString y)))) : CallOk P w K mg base k (Str.ofString y) d ps n fm := by
  obtain ⟨f, fd, h1, h2⟩ := C
  have e : He.ga K (Str.ofString y) = He.ga K (Str.ofString x) := of_decide_eq_true h
  exact ⟨f, fd, by rw [gy, e, ← gx, h1], h2⟩
/-! ### zip -/
theorem zip_item {K : Frag} {A : AS} {H : Hp} {T : Addr} {d e : D} {v u : V} (hn : H T = none) (r : Rep K A H d v) (q : Rep K A H e u) : Same H (upd H T (.tup [v, u])) ∧ Rep K A (upd H T (.tup [v, u])) (.tup [d, e]) (.ref T) := by
  refine ⟨new_same hn, new_tup ?_ hn⟩
  simp only [RepL]
  exact ⟨_, _, rfl, r, _, [], rfl, q, rfl⟩
theorem zip_get {α β γ : Type} {f : α × β → γ} {xs : List α} {ys : List β} {i : Nat} {x : α} {y : β} (h1 : xs[i]? = some x) (h2 : ys[i]? = some y) : ((xs.zip ys).map f)[i]? = some (f (x, y)) := by
  rw [List.getElem?_map, (List.getElem?_zip_eq_some (z := (x, y))).mpr ⟨h1, h2⟩]
  rfl
/-! ### x |= y -/
section
variable {X : Cx}
theorem ip_or : PIp X .BitOr (ipI fun i j => Builtin.bitOr i j) := by
  intro pins s σ H x y v u Q I r1 r2 h
  obtain ⟨i, j, e1, e2, q⟩ := h
  subst e1; subst e2
  obtain ⟨t, rfl⟩ := r1
  obtain ⟨t', rfl⟩ := r2
  exact PyProof.Rows.ior_int ⟨.int _, H, I.tok _, ⟨_, rfl⟩, q⟩
theorem ip_xor : PIp X .BitXor (ipI fun i j => Builtin.bitXor i j) := by
  intro pins s σ H x y v u Q I r1 r2 h
  obtain ⟨i, j, e1, e2, q⟩ := h
  subst e1; subst e2
  obtain ⟨t, rfl⟩ := r1
  obtain ⟨t', rfl⟩ := r2
  exact PyProof.Rows.ixor_int ⟨.int _, H, I.tok _, ⟨_, rfl⟩, q⟩
theorem ip_and : PIp X .BitAnd (ipI fun i j => Builtin.bitAnd i j) := by
  intro pins s σ H x y v u Q I r1 r2 h
  obtain ⟨i, j, e1, e2, q⟩ := h
  subst e1; subst e2
  obtain ⟨t, rfl⟩ := r1
  obtain ⟨t', rfl⟩ := r2
  exact PyProof.Rows.iand_int ⟨.int _, H, I.tok _, ⟨_, rfl⟩, q⟩
end
theorem h_ior {K : Frag} : ∀ x y H Q, r2 K oior x y H Q → ipI (fun i j => Builtin.bitOr i j) x y H Q := fun x y H Q ⟨A, d1, d2, d, h1, h2, _, e, k⟩ => by
  cases d1 <;> cases d2 <;> simp only [oior, Res.ok.injEq, reduceCtorEq] at e
  subst e
  exact ⟨_, _, h1, h2, k _ H (Same.refl H) (flat_rep (d := .int _) rfl _ _)⟩
theorem h_ixor {K : Frag} : ∀ x y H Q, r2 K oixor x y H Q → ipI (fun i j => Builtin.bitXor i j) x y H Q := fun x y H Q ⟨A, d1, d2, d, h1, h2, _, e, k⟩ => by
  cases d1 <;> cases d2 <;> simp only [oixor, Res.ok.injEq, reduceCtorEq] at e
  subst e
  exact ⟨_, _, h1, h2, k _ H (Same.refl H) (flat_rep (d := .int _) rfl _ _)⟩
theorem h_iand {K : Frag} : ∀ x y H Q, r2 K oiand x y H Q → ipI (fun i j => Builtin.bitAnd i j) x y H Q := fun x y H Q ⟨A, d1, d2, d, h1, h2, _, e, k⟩ => by
  cases d1 <;> cases d2 <;> simp only [oiand, Res.ok.injEq, reduceCtorEq] at e
  subst e
  exact ⟨_, _, h1, h2, k _ H (Same.refl H) (flat_rep (d := .int _) rfl _ _)⟩
theorem n_ior : NoEx2 oior := fun x y c fs => by cases x <;> cases y <;> exact fun z => nomatch z
theorem n_ixor : NoEx2 oixor := fun x y c fs => by cases x <;> cases y <;> exact fun z => nomatch z
theorem n_iand : NoEx2 oiand := fun x y c fs => by cases x <;> cases y <;> exact fun z => nomatch z
end Py

namespace Py
open PySem PySem.Spec PyProof.Rows L2
/-! ### zip over any two of lists and tuples: k = true: a tuple -/
def IAt (k : Bool) (h : Heap) (it l : Addr) (i : Nat) : Prop := match k with | true => h.IsTupleIter it l i | false => h.IsListIter it l i
def SAt (k : Bool) (h : Heap) (l : Addr) (xs : Array Value) : Prop := match k with | true => h.IsTuple l xs | false => h.IsList l xs
def icls (k : Bool) : String := match k with | true => "tuple_iterator" | false => "list_iterator"
theorem IAt.up {k : Bool} {h h' : Heap} {it l : Addr} {i : Nat} (x : IAt k h it l i) (e : ∀ o, h.get? it = some o → h'.get? it = some o) : IAt k h' it l i := by
  cases k with
  | true => exact Heap.IsTupleIter.at x e
  | false => exact Heap.IsListIter.at x e
theorem SAt.up {k : Bool} {h h' : Heap} {l : Addr} {xs : Array Value} (x : SAt k h l xs) (e : ∀ o, h.get? l = some o → h'.get? l = some o) : SAt k h' l xs := by
  cases k with
  | true => obtain ⟨o, ho, r⟩ := x; exact ⟨o, e _ ho, r⟩
  | false => obtain ⟨o, ho, r⟩ := x; exact ⟨o, e _ ho, r⟩
theorem IAt.some {k : Bool} {h : Heap} {it l : Addr} {i : Nat} (x : IAt k h it l i) : ∃ o, h.get? it = some o ∧ ∀ v, o.data ≠ .cell v := by
  cases k with
  | true => obtain ⟨o, ho, _, d⟩ := x; exact ⟨o, ho, fun v q => by rw [d] at q; cases q⟩
  | false => obtain ⟨o, ho, _, d⟩ := x; exact ⟨o, ho, fun v q => by rw [d] at q; cases q⟩
section
variable {prog : Program} {w : World} {A : Around} {E : Value → Shared → Prop} {s : Shared}
theorem draw1 {k : Bool} {it l : Addr} {i : Nat} {xs : Array Value} {x : Value} {Q : Value → Shared → Prop} (a : IAt k s.heap it l i) (b : SAt k s.heap l xs) (hx : xs[i]? = some x)
    (q : ∀ h', IAt k h' it l (i + 1) → Heap.SameBut it s.heap h' → Q x { s with heap := h' }) : wpAny (model prog w) A (Builtin.SmallTypes.nextOf (.ref it)) Q E s := by
  cases k with
  | true => exact RZ.nextOf_tuple_item a b hx q
  | false => exact wpAny_nextOf_list_item a b hx q
theorem draw0 {k : Bool} {it l : Addr} {i : Nat} {xs : Array Value} {Q : Value → Shared → Prop} (hh : A.handled = none) (a : IAt k s.heap it l i) (b : SAt k s.heap l xs) (hx : xs[i]? = none)
    (q : ∀ h' e, Heap.ExtBut it s.heap h' → (∃ o, h'.get? e = some o ∧ o.cls = .type "StopIteration") → E (.ref e) { s with heap := h' }) : wpAny (model prog w) A (Builtin.SmallTypes.nextOf (.ref it)) Q E s := by
  cases k with
  | true => exact RZ.nextOf_tuple_end hh a b hx q
  | false => exact wpAny_nextOf_list_end hh a b hx q
theorem bfield {α : Type} {a : Addr} {o : Obj} {vs : Array Value} {n : Nat} {x : Value} {f : Value → Sem α} {Q : α → Shared → Prop} (ho : s.heap.get? a = some o) (hd : o.data = .fields vs) (hi : vs[n]? = some x) (h : wpAny (model prog w) A (f x) Q E s) : wpAny (model prog w) A (field (.ref a) n >>= f) Q E s := wpAny_bind (wpAny_field ho hd hi h)
/-- what stays while a zip draws -/
def Rest (z TO i1 i2 : Addr) (h h' : Heap) : Prop := ∀ c o, c ≠ z → c ≠ TO → c ≠ i1 → c ≠ i2 → h.get? c = some o → h'.get? c = some o
theorem zip_turn {k1 k2 : Bool} {z TI TO i1 i2 l1 l2 : Addr} {n1 n2 : Nat} {xs ys : Array Value} {a b : Value} {Q : Value → Shared → Prop} (hh : A.handled = none) (D : ZipApart z TI TO i1 i2 l1 l2)
    (hz : IsZip s.heap z TI TO .none) (hTI : IsPair s.heap TI (.ref i1) (.ref i2)) (hTO : IsPair s.heap TO a b) (j1 : IAt k1 s.heap i1 l1 n1) (j2 : IAt k2 s.heap i2 l2 n2) (q1 : SAt k1 s.heap l1 xs) (q2 : SAt k2 s.heap l2 ys)
    (hI : ∀ x y h', xs[n1]? = some x → ys[n2]? = some y → IsZip h' z TI TO (rawInt s.heap.objs.size) → IsPair h' TO x y → IAt k1 h' i1 l1 (n1 + 1) → IAt k2 h' i2 l2 (n2 + 1) → IsPair h' s.heap.objs.size x y → Rest z TO i1 i2 s.heap h' → Q (.ref s.heap.objs.size) { s with heap := h' })
    (hE : ∀ h' e, xs[n1]? = none ∨ ys[n2]? = none → Rest z TO i1 i2 s.heap h' → (∃ o, h'.get? e = some o ∧ o.cls = .type "StopIteration") → E (.ref e) { s with heap := h' }) :
    wpAny (model prog w) A (Builtin.«zip.__next__» ⟨[.ref z], []⟩) (fun fin s' => ∃ v, fin = .done (.ret v) ∧ Q v s') E s := by
  change wpAny _ _ (field _ _ >>= _) _ _ _
  refine bfield hz rfl (x := .bool false) rfl ?_
  change wpAny _ _ (field _ _ >>= _) _ _ _
  refine bfield hz rfl (x := .ref TI) rfl (wpAny_bind (wpAny_seqItems hTI rfl ?_))
  change wpAny _ _ (Builtin.SmallTypes.ownedTupleIsFree _ >>= _) _ _ _
  delta Builtin.SmallTypes.ownedTupleIsFree
  refine wpAny_bind (bfield hz rfl (x := .none) rfl (wpAny_pure ?_))
  rw [if_pos rfl]
  refine wpAny_bind (wpAny_rule (bfield hz rfl (x := .ref TO) rfl (wpAny_bind (wpAny_setField_rec hz (by simp) fun u1 c1 b1 => wpAny_bind ?_))))
  replace c1 : IsZip u1 z TI TO .ellipsis := c1
  have e1 := b1.extBut
  rw [show (#[Value.ref i1, .ref i2] : Array Value).toList.zipIdx = [(.ref i1, 0), (.ref i2, 1)] from rfl]
  rw [List.forIn_cons]
  refine wpAny_bind (wpAny_bind (wpAny_onRaise ?_))
  change wpAny _ _ (Builtin.SmallTypes.nextOf _ >>= _) _ _ _
  have j1a : IAt k1 u1 i1 l1 n1 := j1.up fun o q => e1 _ _ D.i1z q
  have q1a : SAt k1 u1 l1 xs := q1.up fun o q => e1 _ _ D.l1z q
  cases hx : xs[n1]? with
  | none =>
    refine wpAny_bind (draw0 hh j1a q1a hx fun u2 e b2 ⟨oe, he, ce⟩ => ?_)
    have c2 : IsZip u2 z TI TO .ellipsis := b2 _ _ D.i1z.symm c1
    have ne : e ≠ z := fun q => by
      rw [q, c2] at he
      cases he
      simp at ce
    exact wpAny_setField_rec c2 (by simp) fun u3 _ b3 => hE u3 e (.inl hx) (fun c o n1 n2 n3 n4 q => b3.extBut _ _ n1 (b2 _ _ n3 (e1 _ _ n1 q))) ⟨oe, b3.extBut _ _ ne he, ce⟩
  | some x =>
    refine wpAny_bind (draw1 j1a q1a hx fun u2 j1b b2 => wpAny_pure ?_)
    have e2 := b2.extBut
    have t2 : IsPair u2 TO a b := e2 _ _ D.TOi1 (e1 _ _ D.TOz hTO)
    refine wpAny_bind (wpAny_seqItems t2 rfl (wpAny_bind (wpAny_updateSeq_pair t2 fun u3 t3 b3 => wpAny_bind (wpAny_letGo (wpAny_pure ?_)))))
    replace t3 : IsPair u3 TO x b := t3
    have e3 := b3.extBut
    dsimp only
    rw [List.forIn_cons]
    refine wpAny_bind (wpAny_bind (wpAny_onRaise ?_))
    change wpAny _ _ (Builtin.SmallTypes.nextOf _ >>= _) _ _ _
    have j2a : IAt k2 u3 i2 l2 n2 := j2.up fun o q => e3 _ _ D.TOi2.symm (e2 _ _ D.i12.symm (e1 _ _ D.i2z q))
    have q2a : SAt k2 u3 l2 ys := q2.up fun o q => e3 _ _ D.l2TO (e2 _ _ D.l2i1 (e1 _ _ D.l2z q))
    cases hy : ys[n2]? with
    | none =>
      refine wpAny_bind (draw0 hh j2a q2a hy fun u4 e b4 ⟨oe, he, ce⟩ => ?_)
      have c4 : IsZip u4 z TI TO .ellipsis := b4 _ _ D.i2z.symm (e3 _ _ D.TOz.symm (e2 _ _ D.i1z.symm c1))
      have ne : e ≠ z := fun q => by
        rw [q, c4] at he
        cases he
        simp at ce
      exact wpAny_setField_rec c4 (by simp) fun u5 _ b5 => hE u5 e (.inr hy) (fun c o n1 n2 n3 n4 q => b5.extBut _ _ n1 (b4 _ _ n4 (e3 _ _ n2 (e2 _ _ n3 (e1 _ _ n1 q))))) ⟨oe, b5.extBut _ _ ne he, ce⟩
    | some y =>
      refine wpAny_bind (draw1 j2a q2a hy fun u4 j2b b4 => wpAny_pure ?_)
      have e4 := b4.extBut
      have t4 : IsPair u4 TO x b := e4 _ _ D.TOi2 t3
      refine wpAny_bind (wpAny_seqItems t4 rfl (wpAny_bind (wpAny_updateSeq_pair t4 fun u5 t5 b5 => wpAny_bind (wpAny_letGo (wpAny_pure ?_)))))
      replace t5 : IsPair u5 TO x y := t5
      have e5 := b5.extBut
      dsimp only
      rw [List.forIn_nil]
      refine wpAny_pure (wpAny_bind (wpAny_seqItems t5 rfl (wpAny_bind (wpAny_newTuple ?_))))
      have sz : u5.objs.size = s.heap.objs.size := by rw [b5.1, b4.1, b3.1, b2.1, b1.1]
      have c5 : IsZip u5 z TI TO .ellipsis := e5 _ _ D.TOz.symm (e4 _ _ D.i2z.symm (e3 _ _ D.TOz.symm (e2 _ _ D.i1z.symm c1)))
      have r5 : Rest z TO i1 i2 s.heap u5 := fun c o n1 n2 n3 n4 q => e5 _ _ n2 (e4 _ _ n4 (e3 _ _ n2 (e2 _ _ n3 (e1 _ _ n1 q))))
      have j1c : IAt k1 u5 i1 l1 (n1 + 1) := j1b.up fun o q => e5 _ _ D.TOi1.symm (e4 _ _ D.i12 (e3 _ _ D.TOi1.symm q))
      have j2c : IAt k2 u5 i2 l2 (n2 + 1) := j2b.up fun o q => e5 _ _ D.TOi2.symm q
      have zl : z < u5.objs.size := Heap.lt_size c5
      change wpAny _ _ (Builtin.SmallTypes.ownedTupleHandOut _ (.ref u5.objs.size) >>= _) _ _ _
      delta Builtin.SmallTypes.ownedTupleHandOut
      have c6 : IsZip (u5.push { cls := .type "tuple", data := .seq #[x, y] }) z TI TO .ellipsis := Heap.get?_push_of_some _ c5
      refine wpAny_bind (wpAny_bind (wpAny_setField_rec c6 (by simp) fun u7 c7 b7 => ?_))
      replace c7 : IsZip u7 z TI TO (rawInt u5.objs.size) := c7
      refine wpAny_setField_rec c7 (by simp) fun u8 c8 b8 => wpAny_pure ⟨_, rfl, ?_⟩
      replace c8 : IsZip u8 z TI TO (rawInt u5.objs.size) := c8
      have up : ∀ c o, c ≠ z → u5.get? c = some o → u8.get? c = some o := fun c o n1 q => b8.extBut _ _ n1 (b7.extBut _ _ n1 (Heap.get?_push_of_some _ q))
      have t8 : IsPair u8 u5.objs.size x y := b8.extBut _ _ (Nat.ne_of_gt zl) (b7.extBut _ _ (Nat.ne_of_gt zl) (Heap.get?_push_size _ rfl))
      rw [sz] at c8 t8
      change Q (.ref u5.objs.size) _
      rw [sz]
      exact hI x y u8 hx hy c8 (up _ _ D.TOz t5) (j1c.up fun o q => up _ o D.i1z q) (j2c.up fun o q => up _ o D.i2z q) t8 fun c o n1 n2 n3 n4 q => up c o n1 (r5 c o n1 n2 n3 n4 q)
theorem zip_next {k1 k2 : Bool} {z TI TO i1 i2 l1 l2 : Addr} {n1 n2 : Nat} {xs ys : Array Value} {a b : Value} {Q : Option Value → Shared → Prop} (hh : A.handled = none) (D : ZipApart z TI TO i1 i2 l1 l2)
    (hz : IsZip s.heap z TI TO .none) (hTI : IsPair s.heap TI (.ref i1) (.ref i2)) (hTO : IsPair s.heap TO a b) (j1 : IAt k1 s.heap i1 l1 n1) (j2 : IAt k2 s.heap i2 l2 n2) (q1 : SAt k1 s.heap l1 xs) (q2 : SAt k2 s.heap l2 ys)
    (hI : ∀ x y h', xs[n1]? = some x → ys[n2]? = some y → IsZip h' z TI TO (rawInt s.heap.objs.size) → IsPair h' TO x y → IAt k1 h' i1 l1 (n1 + 1) → IAt k2 h' i2 l2 (n2 + 1) → IsPair h' s.heap.objs.size x y → Rest z TO i1 i2 s.heap h' → Q (some (.ref s.heap.objs.size)) { s with heap := h' })
    (hE : ∀ h', xs[n1]? = none ∨ ys[n2]? = none → Rest z TO i1 i2 s.heap h' → Q none { s with heap := h' }) : wpAny (model prog w) A (pyNext (.ref z)) Q E s := by
  have ty : s.TypeIs (.ref z) "zip" := ⟨_, hz, rfl⟩
  delta pyNext
  refine wpAny_bind (wpAny_attempt (wpAny_callSpecial?_slot (name := Str.ofString "__next__") ty F.slot_zip_next (wpAny_call_entry F.slot_zip_next ty F.entry_zip_next ?_ (F.args_zip_next_1 _))))
  refine zip_turn hh D hz hTI hTO j1 j2 q1 q2 (fun x y h' a1 a2 a3 a4 a5 a6 a7 a8 => wpAny_pure (hI x y h' a1 a2 a3 a4 a5 a6 a7 a8)) fun h' e he r ⟨o, ho, hc⟩ => ?_
  exact wpAny_bind (wpAny_isInstance (T := "StopIteration") (b := true) ⟨o, ho, hc⟩ isSubtype_stop (wpAny_pure (hE h' he r)))
theorem iter_new {k : Bool} {l : Addr} {xs : Array Value} {Q : Value → Shared → Prop} (q : SAt k s.heap l xs) (h : Q (.ref s.heap.objs.size) { s with heap := s.heap.push { cls := .type (icls k), data := .fields #[.ref l, .int 0 0] } }) : wpAny (model prog w) A (pyIter (.ref l)) Q E s := by
  cases k with
  | true => exact wpAny_pyIter_tuple q h
  | false => exact wpAny_pyIter_list q h
end
abbrev zi (k : Bool) (l : Addr) : Obj := { cls := .type (icls k), data := .fields #[.ref l, .int 0 0] }
abbrev zo (n : Nat) : Obj := { cls := .type "zip", data := .fields #[.none, .bool false, .bool false, .ref (n + 2), .ref (n + 3)] }
abbrev zt (x y : Value) : Obj := { cls := .type "tuple", data := .seq #[x, y] }
abbrev zh (k1 k2 : Bool) (h : Heap) (l1 l2 : Addr) : Heap :=
  let a := h.push (zi k1 l1)
  let b := a.push (zi k2 l2)
  let c := b.push (zt (.ref h.objs.size) (.ref a.objs.size))
  let d := c.push (zt .none .none)
  d.push { cls := .type "zip", data := .fields #[.none, .bool false, .bool false, .ref b.objs.size, .ref c.objs.size] }
theorem meets_zip2 (k1 k2 : Bool) (l1 l2 : Addr) (xs ys : Array Value) : Meets (Builtin.«zip.__new__» ⟨[.type "zip", .ref l1, .ref l2], []⟩) (fun _ R s => SAt k1 s.heap l1 xs ∧ SAt k2 s.heap l2 ys ∧ R (.ok (.ret (.ref (s.heap.objs.size + 1 + 1 + 1 + 1)))) { s with heap := zh k1 k2 s.heap l1 l2 }) := .of_wp fun prog w A R s h => by
  obtain ⟨hp, g, d, tk, os⟩ := s
  obtain ⟨q1, q2, h⟩ := h
  have sub := sub_zip
  have p1 : SAt k1 (Shared.heap ⟨hp, g, d, tk, os⟩) l1 xs := q1
  have p2 : SAt k2 (Shared.heap ⟨hp.push (zi k1 l1), g, d, tk, os⟩) l2 ys := q2.up fun o e => Heap.get?_push_of_some _ e
  wp_walk using iter_new p1, iter_new p2
  exact ⟨_, by simp only [Heap.size_push], h⟩
section
variable {prog : Program} {w : World} {A : Around} {E : Value → Shared → Prop} {s : Shared}
theorem zip_call {k1 k2 : Bool} {l1 l2 : Addr} {xs ys : Array Value} {Q : Value → Shared → Prop} (q1 : SAt k1 s.heap l1 xs) (q2 : SAt k2 s.heap l2 ys)
    (h : ∀ h' n, n = s.heap.objs.size → IsZip h' (n + 4) (n + 2) (n + 3) .none → IsPair h' (n + 2) (.ref n) (.ref (n + 1)) → IsPair h' (n + 3) .none .none → IAt k1 h' n l1 0 → IAt k2 h' (n + 1) l2 0 → (∀ c o, s.heap.get? c = some o → h'.get? c = some o) → Q (.ref (n + 4)) { s with heap := h' }) :
    wpAny (model prog w) A (PySem.call (.type "zip") [.ref l1, .ref l2]) Q E s := by
  refine callType_new F.called_zip (by decide) (F.typeCall_zip_2 _ _) (F.newCall_zip_2 _ _) (fun obj => F.args_object_init_3 obj _ _) F.entry_zip_new (meets_zip2 k1 k2 l1 l2 xs ys) ⟨q1, q2, ?_⟩
  have g : ∀ (h : Heap) (o : Obj) (n : Nat), h.objs.size = n → Obj.isFreed o = false → (h.push o).get? n = some o := fun h o n e f => by
    rw [← e]
    exact Heap.get?_push_size _ f
  have up : ∀ {h : Heap} {o p : Obj} {n : Nat}, h.get? n = some p → (h.push o).get? n = some p := fun e => Heap.get?_push_of_some _ e
  have i1 : ∀ (k : Bool) (l : Addr), Obj.isFreed (zi k l) = false := fun k l => rfl
  generalize hn : s.heap.objs.size = n
  have g5 : (zh k1 k2 s.heap l1 l2).get? (n + 4) = some (zo n) := by
    have := g ((((s.heap.push (zi k1 l1)).push (zi k2 l2)).push (zt (.ref n) (.ref (n + 1)))).push (zt .none .none)) (zo n) (n + 4) (by simp only [Heap.size_push, hn]) rfl
    unfold zh
    simp only [Heap.size_push, hn]
    exact this
  have g4 : (zh k1 k2 s.heap l1 l2).get? (n + 3) = some (zt .none .none) := up (g _ _ _ (by simp only [Heap.size_push, hn]) rfl)
  have g3 : (zh k1 k2 s.heap l1 l2).get? (n + 2) = some (zt (.ref n) (.ref (n + 1))) := by
    have := g ((s.heap.push (zi k1 l1)).push (zi k2 l2)) (zt (.ref n) (.ref (n + 1))) (n + 2) (by simp only [Heap.size_push, hn]) rfl
    refine up (up ?_)
    simpa only [Heap.size_push, hn] using this
  have g2 : (zh k1 k2 s.heap l1 l2).get? (n + 1) = some (zi k2 l2) := up (up (up (g _ _ _ (by simp only [Heap.size_push, hn]) (i1 k2 l2))))
  have g1 : (zh k1 k2 s.heap l1 l2).get? n = some (zi k1 l1) := up (up (up (up (g _ _ _ hn (i1 k1 l1)))))
  refine ⟨⟨_, g5, rfl⟩, h _ n hn.symm g5 g3 g4 ?_ ?_ fun c o x => up (up (up (up (up x))))⟩
  · cases k1 with
    | true => exact ⟨_, g1, rfl, rfl⟩
    | false => exact ⟨_, g1, rfl, rfl⟩
  · cases k2 with
    | true => exact ⟨_, g2, rfl, rfl⟩
    | false => exact ⟨_, g2, rfl, rfl⟩
end
/-! the turn -/
def SqK (k : Bool) (K : Frag) (H : Hp) (a : Addr) (xs : List V) : Prop := match k with | true => SqT K H a xs | false => SqL K H a xs
theorem SqK.at {k : Bool} {X : Cx} {pins : List (Addr × Obj)} {σ : L2.St} {H : Hp} {s : Shared} {a : Addr} {xs : List V} (I : Inv X pins σ H s) (q : SqK k X.K H a xs) : ∃ its, Vals xs its ∧ SAt k s.heap a its.toArray ∧ a < s.heap.objs.size := by
  cases k with
  | true =>
    obtain ⟨its, r, p, _⟩ := I.tuple q
    obtain ⟨o, ho, _⟩ := id p
    exact ⟨its, r, p, Heap.lt_size ho⟩
  | false =>
    obtain ⟨its, r, p, _⟩ := I.list q
    exact ⟨its, r, p.isList, p.lt⟩
theorem SqK.inj {k : Bool} {X : Cx} {pins : List (Addr × Obj)} {σ : L2.St} {H : Hp} {s : Shared} {a : Addr} {xs ys : List V} (I : Inv X pins σ H s) (q : SqK k X.K H a xs) (q' : SqK k X.K H a ys) : xs = ys := by
  cases k with
  | true => exact I.tuple_inj q q'
  | false => exact I.list_inj q q'
def Itq (K : Frag) (k1 k2 : Bool) (a b : Addr) : It :=
  ⟨fun i H => ∃ (xs ys : List V) (x y : V), SqK k1 K H a xs ∧ SqK k2 K H b ys ∧ xs[i]? = some x ∧ ys[i]? = some y,
   fun i H v H' => ∃ T x y, v = .ref T ∧ H T = none ∧ H' = upd H T (.tup [x, y]) ∧ (∀ xs, SqK k1 K H a xs → xs[i]? = some x) ∧ ∀ ys, SqK k2 K H b ys → ys[i]? = some y,
   fun i H => ∃ xs ys : List V, SqK k1 K H a xs ∧ SqK k2 K H b ys ∧ (xs.length ≤ i ∨ ys.length ≤ i)⟩
theorem zip_Turn {P : Program} {w : World} {K : Frag} {elts : List Expr} {kk : Nat} {tpos : Pos} {k1 k2 : Bool} {a b z TI TO i1 i2 : Addr} (D : ZipApart z TI TO i1 i2 a b) :
    Turn P w K (.Tuple elts kk tpos) (Itq K k1 k2 a b) [z, TI, TO, i1, i2] z (fun i h => IsZip h z TI TO .none ∧ IsPair h TI (.ref i1) (.ref i2) ∧ (∃ x y, IsPair h TO x y) ∧ IAt k1 h i1 a i ∧ IAt k2 h i2 b i) := by
  have five : ∀ {c : Addr}, c ∈ [z, TI, TO, i1, i2] → c = z ∨ c = TI ∨ c = TO ∨ c = i1 ∨ c = i2 := fun {c} h => by simpa using h
  have nin : ∀ {c : Addr}, c ∉ [z, TI, TO, i1, i2] → c ≠ z ∧ c ≠ TO ∧ c ≠ i1 ∧ c ≠ i2 := fun {c} h => ⟨fun q => h (by simp [q]), fun q => h (by simp [q]), fun q => h (by simp [q]), fun q => h (by simp [q])⟩
  refine ⟨List.mem_cons_self, fun i h st c hc => ?_, fun i h h' st k => ?_, ?_, ?_, fun A i s Q E st h => wpAny_pyIter_zip st.1 h⟩
  · obtain ⟨hz, hTI, ⟨x, y, hTO⟩, h1, h2⟩ := st
    rcases five hc with rfl | rfl | rfl | rfl | rfl
    · exact ⟨_, hz, nofun⟩
    · exact ⟨_, hTI, nofun⟩
    · exact ⟨_, hTO, nofun⟩
    · exact h1.some
    · exact h2.some
  · obtain ⟨hz, hTI, ⟨x, y, hTO⟩, h1, h2⟩ := st
    exact ⟨k z (by simp) _ hz, k TI (by simp) _ hTI, ⟨x, y, k TO (by simp) _ hTO⟩, h1.up (k i1 (by simp)), h2.up (k i2 (by simp))⟩
  · intro X hP hw hK hc i pins s σ H E I hf st hg
    subst hP hw hK
    obtain ⟨hz, hTI, ⟨x0, y0, hTO⟩, h1, h2⟩ := st
    obtain ⟨xs, ys, x, y, qx, qy, hx, hy⟩ := hg
    obtain ⟨its, rv, p1, _⟩ := qx.at I
    obtain ⟨its2, rv2, p2, _⟩ := qy.at I
    obtain ⟨u, hu, ru⟩ := rv.get hx
    obtain ⟨u2, hu2, ru2⟩ := rv2.get hy
    have lz : z < s.heap.objs.size := Heap.lt_size hz
    refine zip_next (I.ok.hd hc) D hz hTI hTO h1 h2 p1 p2 (fun v v2 h' a1 a2 c1 t1 m1 m2 pr rs => ?_) fun h' he _ => ?_
    · have e1 : v = u := by simpa [hu] using a1.symm
      have e2 : v2 = u2 := by simpa [hu2] using a2.symm
      subst e1 e2
      refine ⟨_, rfl, wpAny_letOwnedTupleGo_zip (s := { s with heap := h' }) c1 fun h'' c2 sb => ?_⟩
      have pr2 : h''.get? s.heap.objs.size = some (zt v v2) := (sb.2 _ (Nat.ne_of_gt lz)).trans pr
      have new : ObjOk X.prog X.w (upd H s.heap.objs.size (.tup [x, y])) h'' s.heap.objs.size (.tup [x, y]) := by
        refine ⟨?_, [v, v2], .cons ru (.cons ru2 .nil), ⟨_, pr2, rfl, _, rfl⟩⟩
        change 2 ≤ sizeLine
        decide
      have all : ∀ c o, c ∉ [z, TI, TO, i1, i2] → s.heap.get? c = some o → h''.get? c = some o := fun c o hb q => by
        obtain ⟨n1, n2, n3, n4⟩ := nin hb
        exact (sb.2 c n1).trans (rs c o n1 n2 n3 n4 q)
      have I1 : Inv X pins σ (upd H s.heap.objs.size (.tup [x, y])) { s with heap := h'' } := I.turnedNew (t' := s.toks) all hf (Nat.le_refl _) new
      refine ⟨.ref s.heap.objs.size, _, I1, rfl, ⟨_, x, y, rfl, I.hok.fresh (Nat.le_refl _), rfl, fun l hl => by rw [hl.inj I qx]; exact hx, fun l hl => by rw [hl.inj I qy]; exact hy⟩, ⟨c2, ?_, ⟨v, v2, ?_⟩, ?_, ?_⟩, fun c hcm => ?_⟩
      · exact (sb.2 _ D.TIz).trans (rs _ _ D.TIz D.TITO D.TIi1 D.TIi2 hTI)
      · exact (sb.2 _ D.TOz).trans t1
      · exact m1.up fun o q => (sb.2 _ D.i1z).trans q
      · exact m2.up fun o q => (sb.2 _ D.i2z).trans q
      · have lt : c < s.heap.objs.size := by
          rcases five hcm with rfl | rfl | rfl | rfl | rfl
          · exact lz
          · exact Heap.lt_size hTI
          · exact Heap.lt_size hTO
          · obtain ⟨_, e, _⟩ := h1.some; exact Heap.lt_size e
          · obtain ⟨_, e, _⟩ := h2.some; exact Heap.lt_size e
        rw [upd_ne (Nat.ne_of_lt lt)]
        exact (hf c hcm).1
    · rcases he with he | he
      · rw [show its.toArray[i]? = some u by simpa using hu] at he
        cases he
      · rw [show its2.toArray[i]? = some u2 by simpa using hu2] at he
        cases he
  · intro X hP hw hK hc i pins s σ H E I hf st hg
    subst hP hw hK
    obtain ⟨hz, hTI, ⟨x0, y0, hTO⟩, h1, h2⟩ := st
    obtain ⟨xs, ys, qx, qy, stop⟩ := hg
    obtain ⟨its, rv, p1, _⟩ := qx.at I
    obtain ⟨its2, rv2, p2, _⟩ := qy.at I
    have n1 := rv.length
    have n2 := rv2.length
    refine zip_next (I.ok.hd hc) D hz hTI hTO h1 h2 p1 p2 (fun v v2 h' a1 a2 _ _ _ _ _ _ => ?_) fun h' _ rs => ⟨rfl, I.turnedL (t' := s.toks) (ch := [z, TI, TO, i1, i2]) (fun c o hb q => ?_) hf⟩
    · have b1 : i < its.length := by
        simp at a1
        exact (List.getElem?_eq_some_iff.mp a1).1
      have b2 : i < its2.length := by
        simp at a2
        exact (List.getElem?_eq_some_iff.mp a2).1
      omega
    · obtain ⟨m1, m2, m3, m4⟩ := nin hb
      exact rs c o m1 m2 m3 m4 q
def iZipq (K : Frag) (ta : TA) : TI := fun σ H R => ta σ H fun vs H1 => ∃ k1 k2 a b xs ys, vs = [.ref a, .ref b] ∧ SqK k1 K H1 a xs ∧ SqK k2 K H1 b ys ∧ R (Itq K k1 k2 a b) H1
theorem pi_zipq {X : Cx} {e e2 : Expr} {ta : TA} {p pos tpos : Pos} {elts : List Expr} {kk : Nat} (hg : Gl X "zip") (hm : X.mg "zip" = none) (ha : PA X [e, e2] ta)
    (hs : starEach [e, e2] X.env = (false, eval e X.env) :: starEach [e2] X.env := by rfl) (hpl : (backTo pos (starEach [e2] X.env)).any (·.1) = false := by rfl) : PI X (.Tuple elts kk tpos) (.Call (.Name "zip" p) [e, e2] [] pos) (iZipq X.K ta) := ⟨fun pins s σ H R I h => by
  refine Call_ (ld_blt I hg hm PyProof.Rows.boot_zip (PyProof.Rows.callWith_type1 (thn (ha.run pos pins s σ H _ I h) fun us s1 ⟨vs, H1, I1, r1, k1, k2, a, b, xs, ys, ex, qx, qy, q⟩ => ?_) hs hpl))
  subst ex
  cases r1 with
  | cons r rr =>
    cases rr with
    | cons r' rr =>
      cases rr
      cases r
      cases r'
      obtain ⟨its, _, p1, l1⟩ := qx.at I1
      obtain ⟨its2, _, p2, l2⟩ := qy.at I1
      refine zip_call p1 p2 fun h' n hn c1 t1 t2 m1 m2 up => wpAny_pyIter_zip c1 ?_
      have I2 : Inv X pins σ H1 { s1 with heap := h' } := I1.kept (t' := s1.toks) up
      refine ⟨n + 4, [n + 4, n + 2, n + 3, n, n + 1], _, _, H1, rfl, I2, zip_Turn (PySem.W.ktu_apart n a b (by rw [hn]; exact l1) (by rw [hn]; exact l2)), ⟨c1, t1, ⟨_, _, t2⟩, m1, m2⟩, fun c hc => ?_, q⟩
      have le : s1.heap.objs.size ≤ c := by
        have : c = n + 4 ∨ c = n + 2 ∨ c = n + 3 ∨ c = n ∨ c = n + 1 := by simpa using hc
        rw [← hn]
        rcases this with z | z | z | z | z <;> rw [z]
        · exact Nat.le_add_right _ _
        · exact Nat.le_add_right _ _
        · exact Nat.le_add_right _ _
        · exact Nat.le_refl _
        · exact Nat.le_add_right _ _
      exact I1.fpOk le (I1.hok.fresh le)⟩
/-! ### zip in the mirror -/
theorem rep_sq {K : Frag} {A : AS} {O : OW} {H : Hp} {d : D} {v : V} {k : Bool} {ds : List D} (e : seqOf d = some (k, ds)) (r : Rep K (AO A O) H d v) : ∃ a vs, v = .ref a ∧ (∀ A2 H2, Mv (AO A O) H A2 H2 → SqK k K H2 a vs) ∧ RepL K (AO A O) H ds vs := by
  cases d with
  | lst xs =>
    cases e
    obtain ⟨x, vs, rfl, n, h, r⟩ := (by simpa only [Rep] using r : ∃ a vs, v = .ref a ∧ ¬ AO A O a ∧ Rd H a (.lst vs) ∧ RepL K (AO A O) H ds vs)
    exact ⟨x, vs, rfl, fun A2 H2 m => .inl (Rd.move m h n).1, r⟩
  | tup xs =>
    cases e
    obtain ⟨x, vs, rfl, h, r⟩ := (by simpa only [Rep] using r : ∃ a vs, v = .ref a ∧ SqT K H a vs ∧ RepL K (AO A O) H ds vs)
    exact ⟨x, vs, rfl, fun A2 H2 m => SqT.move m h, r⟩
  | _ => cases e
theorem itm_zipq {K : Frag} {A : AS} {H : Hp} {k1 k2 : Bool} {a b : Addr} {ds es : List D} {vs us : List V} (q : ∀ A2 H2, Mv A H A2 H2 → SqK k1 K H2 a vs) (q' : ∀ A2 H2, Mv A H A2 H2 → SqK k2 K H2 b us) (r : RepL K A H ds vs) (r' : RepL K A H es us) : Itm Mv K A (Itq K k1 k2 a b) ((ds.zip es).map fun p => .tup [p.1, p.2]) H := fun i A2 H2 m => by
  have q2 := q A2 H2 m
  have q2' := q' A2 H2 m
  have r2 := RepL.move m ds vs r
  have r2' := RepL.move m es us r'
  rw [List.length_map, List.length_zip]
  refine ⟨fun hi => ?_, fun hi => ⟨vs, us, q2, q2', by rw [← r.length, ← r'.length]; omega⟩⟩
  have h1 : i < ds.length := by omega
  have h2 : i < es.length := by omega
  obtain ⟨v, hv, rv⟩ := r2.get (i := i) (List.getElem?_eq_getElem h1)
  obtain ⟨u, hu, ru⟩ := r2'.get (i := i) (List.getElem?_eq_getElem h2)
  refine ⟨⟨vs, us, v, u, q2, q2', hv, hu⟩, fun x H3 ⟨T, x', y', e1, hn, e2, k1, k2⟩ => ?_⟩
  subst e1 e2
  have e3 := k1 vs q2
  have e4 := k2 us q2'
  rw [hv] at e3
  rw [hu] at e4
  cases e3
  cases e4
  obtain ⟨s1, r1⟩ := zip_item hn rv ru
  exact ⟨s1, _, zip_get (List.getElem?_eq_getElem h1) (List.getElem?_eq_getElem h2), r1⟩
section
variable {X : Cx} {W : WX} {ow : Ow} {a b : Expr} {elts : List Expr} {ma mb : EM} {pos p tpos : Pos} {kk : Nat}
theorem i_zip (hg : Gl X "zip") (hm : X.mg "zip" = none) (ha : PE X a (tE X.K W ow ma)) (hb : PE X b (tE X.K W ow mb)) (hs : starEach [a, b] X.env = (false, eval a X.env) :: starEach [b] X.env := by rfl) (hs2 : starEach [b] X.env = [(false, eval b X.env)] := by rfl) (hpl : (backTo pos (starEach [b] X.env)).any (·.1) = false := by rfl) :
    PI X (.Tuple elts kk tpos) (.Call (.Name "zip" p) [a, b] [] pos) (tI Mv X.K W ow (izip ma mb)) :=
  PI.of (pi_zipq hg hm (pa_cons ha (pa_cons hb pa_nil hs2) hs) hs hpl) fun σ H R' ⟨A, H0, O, en, R, q⟩ => ⟨A, H0, O, en, R, (Out.bind q).good fun d q1 v H1 s1 r1 => ⟨A, H0, O, en, R.to s1, ((Out.bind q1).to s1).good fun d2 q2 v2 H2 s2 r2 => by
    have r1' := Rep.move (Mv.same s2) _ _ r1
    cases e1 : seqOf d with
    | none =>
      unfold ozip at q2
      rw [e1] at q2
      exact q2.elim
    | some p =>
      cases e2 : seqOf d2 with
      | none =>
        unfold ozip at q2
        rw [e1, e2] at q2
        exact q2.elim
      | some p2 =>
        obtain ⟨k1, xs⟩ := p
        obtain ⟨k2, ys⟩ := p2
        unfold ozip at q2
        rw [e1, e2] at q2
        obtain ⟨x, vs, rfl, h, r⟩ := rep_sq e1 r1'
        obtain ⟨y, us, rfl, h', r'⟩ := rep_sq e2 r2
        exact ⟨k1, k2, x, y, vs, us, rfl, h _ _ (Mv.same (Same.refl _)), h' _ _ (Mv.same (Same.refl _)), q2 _ H2 (s1.trans s2) (itm_zipq h h' r r')⟩⟩⟩
end
end Py

/-! Who owns what, statement by statement. -/
namespace Py
open PySem L2
/-- the names that own what they hold -/
def ownS : List Nat → Nat → Bool
  | [], _ => false
  | j :: l, i => i == j || ownS l i
theorem owS_mem : ∀ {l : List Nat} {i : Nat}, ownS l i = true → i ∈ l
  | j :: l, i, h => by
    unfold ownS at h
    rw [Bool.or_eq_true] at h
    rcases h with h | h
    · exact List.mem_cons.mpr (.inl (by simpa using h))
    · exact List.mem_cons_of_mem _ (owS_mem h)
theorem owS_le {l l' : List Nat} (h : (l'.all fun i => ownS l i) = true) : ∀ i, ownS l' i = true → ownS l i = true := fun i hi => List.all_eq_true.mp h i (owS_mem hi)
theorem owS_add {l l' : List Nat} {i : Nat} (h : (l'.all fun j => j == i || ownS l j) = true ∧ ownS l' i = true ∧ (l.all fun j => ownS l' j) = true) : ∀ j, ownS l' j = (j == i || ownS l j) := fun j => by
  obtain ⟨h1, h2, h3⟩ := h
  cases e : ownS l' j with
  | true => exact (List.all_eq_true.mp h1 j (owS_mem e)).symm
  | false =>
    cases e2 : (j == i || ownS l j) with
    | false => rfl
    | true =>
      rw [Bool.or_eq_true] at e2
      rcases e2 with e2 | e2
      · rw [show j = i by simpa using e2, h2] at e
        cases e
      · rw [List.all_eq_true.mp h3 j (owS_mem e2)] at e
        cases e
abbrev owS (l : List Nat) : Ow := ⟨ownS l, none⟩
/-- .. while an error is held -/
abbrev Ow.hold (o : Ow) (i : Nat) (a da : Addr) (fs : List (String × D)) : Ow := ⟨fun j => j == i || o j, some ⟨i, a, da, fs⟩⟩
/-- the new owners know no more of an error -/
def XLe (o1 o : Ow) : Prop := o1.x = none ∨ (o1.x = o.x ∧ ∀ q, o1.x = some q → o q.i = true → o1 q.i = true)
theorem XLe.refl {o : Ow} : XLe o o := .inr ⟨rfl, fun _ _ z => z⟩
theorem XFact.cut {K : Frag} {A : AS} {H : Hp} {σ : L2.St} {e : Env} {o o1 : Ow} (h : XFact K A H σ e o) (l : XLe o1 o) : XFact K A H σ e o1 := fun q hq => by
  rcases l with l | ⟨l1, l2⟩
  · rw [l] at hq
    cases hq
  · obtain ⟨h1, h2, h3, h4⟩ := h q (l1 ▸ hq)
    exact ⟨l2 q hq h1, h2, h3, h4⟩
section
variable {fr : Bool} {K : Frag} {A : AS} {H0 : Base} {ow o1 oN oB : Ow} {O : OW} {σ : L2.St} {H H' : Hp} {e : Env}
def cutO (ow o1 : Ow) (O : OW) : OW := fun i => if ow i = true ∧ o1 i = false then none else O i
theorem cutO_some {i : Nat} {a : Addr} (h : cutO ow o1 O i = some a) : O i = some a := by
  unfold cutO at h
  split at h
  · cases h
  · exact h
theorem cut_less : ∀ a, AO A (cutO ow o1 O) a → AO A O a := fun a h => h.elim .inl fun ⟨i, q⟩ => .inr ⟨i, cutO_some q⟩
/-- some names give up what they own -/
theorem ER.part (R : ER K A H0 ow O σ H e) (h : ∀ i, o1 i = true → ow i = true) (h0 : ow 0 = true → o1 0 = true) (hx : XLe o1 ow) : ER K A H0 o1 (cutO ow o1 O) σ H e := by
  have mv : Mv (AO A O) H (AO A (cutO ow o1 O)) H := Mv.less cut_less
  have stay : ∀ i, o1 i = true → cutO ow o1 O i = O i := fun i hi => by
    unfold cutO
    rw [if_neg]
    rintro ⟨_, z⟩
    rw [hi] at z
    cases z
  refine ⟨R.len, R.a0, R.same, fun i d h1 h2 => ?_, fun i d h1 h2 => ?_, fun i a q => R.fresh i a (cutO_some q), fun i j a q q' => R.inj i j a (cutO_some q) (cutO_some q'), fun a q => ?_, (R.exq.heap mv fun _ _ e => e).cut hx⟩
  · cases hi : ow i with
    | false =>
      obtain ⟨v, q, r⟩ := R.vals i d h1 hi
      exact ⟨v, q, Rep.move mv _ _ r⟩
    | true =>
      obtain ⟨a, q, q2, r⟩ := R.owns i d h1 hi
      refine ⟨.ref a, q2, ?_⟩
      have na : ¬ AO A (cutO ow o1 O) a := by
        rintro (z | ⟨j, z⟩)
        · exact (R.fresh i a q).2.2 z
        · have e1 := R.inj i j a q (cutO_some z)
          subst e1
          unfold cutO at z
          rw [if_pos ⟨hi, h2⟩] at z
          cases z
      cases d with
      | lst ds =>
        obtain ⟨vs, e1, r1⟩ := r
        simp only [Rep]
        exact ⟨a, vs, rfl, na, .inl e1, RepL.move mv _ _ r1⟩
      | ins c fs =>
        obtain ⟨dx, fvs, e1, r1⟩ := r
        simp only [Rep]
        exact ⟨a, dx, fvs, rfl, na, e1, RepF.move mv _ _ r1⟩
      | _ => exact r.elim
  · obtain ⟨a, q, q2, r⟩ := R.owns i d h1 (h i h2)
    exact ⟨a, (stay i h2).trans q, q2, r.move mv rfl⟩
  · have q0 := R.pin a q
    unfold cutO
    rw [if_neg]
    · exact q0
    · rintro ⟨z1, z2⟩
      rw [h0 z1] at z2
      cases z2
/-- a name is to own what comes next -/
theorem ER.opens (R : ER K A H0 ow O σ H e) {i : Nat} (hi : ow i = false) (hN : ∀ j, oN j = (j == i || ow j)) (hx : XLe oN ow) : ER K A H0 oN O σ H (e.set i none) := by
  have other : ∀ j d, (e.set i none)[j]? = some (some d) → i ≠ j ∧ e[j]? = some (some d) := fun j d h => by
    by_cases hj : i = j
    · subst hj
      have hl : i < e.length := by
        have := (List.getElem?_eq_some_iff.mp h).1
        simpa using this
      rw [List.getElem?_set_self hl] at h
      cases h
    · rw [List.getElem?_set_ne hj] at h
      exact ⟨hj, h⟩
  refine ⟨by simp [R.len], R.a0, R.same, fun j d h1 h2 => ?_, fun j d h1 h2 => ?_, R.fresh, R.inj, R.pin, (R.exq.move Mv.refl (fun _ _ e => e) fun j hj n => ?_).cut hx⟩
  rotate_right
  · have hne : i ≠ j := fun z => by
      rw [z, hj] at hi
      cases hi
    rw [List.getElem?_set_ne hne]
    exact ⟨rfl, n⟩
  · obtain ⟨hj, h3⟩ := other j d h1
    rw [hN, show (j == i) = false by simpa using fun z => hj z.symm, Bool.false_or] at h2
    exact R.vals j d h3 h2
  · obtain ⟨hj, h3⟩ := other j d h1
    rw [hN, show (j == i) = false by simpa using fun z => hj z.symm, Bool.false_or] at h2
    exact R.owns j d h3 h2
theorem EndOk3.le {o1 oB1 : Ow} {D : Ends} (hN : ∀ i, oN i = true → o1 i = true) (hN0 : o1 0 = true → oN 0 = true) (hB : ∀ i, oB i = true → oB1 i = true) (hB0 : oB1 0 = true → oB 0 = true) (hNx : XLe oN o1) (hBx : XLe oB oB1) : ∀ {f : Fl}, EndOk3 fr K A H0 oN oB O H D f → EndOk3 fr K A H0 o1 oB1 O H D f
  | .next _, h => fun O' σ' H' R n => h _ σ' H' (R.part hN hN0 hNx) (n.trans (Mv.less cut_less))
  | .ret _, h => h
  | .brk _, h => fun O' σ' H' R n => h _ σ' H' (R.part hB hB0 hBx) (n.trans (Mv.less cut_less))
  | .cnt _, h => fun O' σ' H' R n => h _ σ' H' (R.part hB hB0 hBx) (n.trans (Mv.less cut_less))
end
section
variable {fr : Bool} {X : Cx} {W : WX} {ow o1 oN oB : Ow} {a b c e : Expr} {es : List Expr} {m ma mb mc : EM} {st : Stmt} {rest body orelse : List Stmt} {u v : SM} {t : TM} {pos : Pos} {j : Nat}
/-- a statement that changes no owner -/
theorem s_up (h : PS X st (tS fr X.K W ow u)) (hB : ∀ i, oB i = true → ow i = true) (hB0 : ow 0 = true → oB 0 = true) (hx : XLe oB ow := by first | exact Or.inl rfl | exact XLe.refl | exact Or.inr ⟨rfl, by intro q z; cases z; intro _; rfl⟩) : PS X st (tS3 fr X.K W ow ow oB u) :=
  PS.of h fun D σ H ⟨A, H0, O, en, R, q⟩ => ⟨A, H0, O, en, R, q.good fun f q1 => q1.le (fun _ z => z) (fun z => z) hB hB0 XLe.refl hx⟩
theorem c_nil : PSs X [] (tS3 fr X.K W ow ow oB skip) := PSs.of pss_nil fun D σ H ⟨A, H0, O, en, R, q⟩ => q O σ H R Mv.refl
theorem c_one (h : PS X st (tS3 fr X.K W ow oN oB u)) : PSs X [st] (tS3 fr X.K W ow oN oB u) := pss_one h
theorem c_cons (h : PS X st (tS3 fr X.K W ow o1 oB u)) (k : PSs X rest (tS3 fr X.K W o1 oN oB v)) : PSs X (st :: rest) (tS3 fr X.K W ow oN oB (seq u v)) :=
  PSs.of (pss_cons h k) fun D σ H ⟨A, H0, O, en, R, q⟩ => ⟨A, H0, O, en, R, (Out.bind q).good fun f q1 => by
    cases f with
    | next e' => exact fun O' σ' H' R' mv => ⟨A, H0, O', e', R', q1.good fun f q2 => q2.to mv⟩
    | ret d => exact q1
    | brk e' => exact q1
    | cnt e' => exact q1⟩
/-- names give up what they own -/
theorem c_cut (h : PSs X rest (tS3 fr X.K W o1 oN oB v)) (h1 : ∀ i, o1 i = true → ow i = true) (h0 : ow 0 = true → o1 0 = true) (hx : XLe o1 ow := by first | exact Or.inl rfl | exact XLe.refl | exact Or.inr ⟨rfl, by intro q z; cases z; intro _; rfl⟩) : PSs X rest (tS3 fr X.K W ow oN oB v) :=
  PSs.of h fun D σ H ⟨A, H0, O, en, R, q⟩ => ⟨A, H0, _, en, R.part h1 h0 hx, q.good fun f q1 => q1.to (Mv.less cut_less)⟩
theorem c_end (h : PS X st (tS3 fr X.K W ow o1 oB u)) (h1 : ∀ i, oN i = true → o1 i = true) (h0 : o1 0 = true → oN 0 = true) (hx : XLe oN o1 := by first | exact Or.inl rfl | exact XLe.refl | exact Or.inr ⟨rfl, by intro q z; cases z; intro _; rfl⟩) : PS X st (tS3 fr X.K W ow oN oB u) :=
  PS.of h fun D σ H ⟨A, H0, O, en, R, q⟩ => ⟨A, H0, O, en, R, q.good fun f q1 => q1.le h1 h0 (fun _ z => z) (fun z => z) hx XLe.refl⟩
/-- a name gets a new object of its own -/
theorem c_own {i : Nat} (h : PS X st (tAsg (tF X.K W ow m) (gName i))) (hi : ow i = false) (hN : ∀ j, oN j = (j == i || ow j)) (h0 : 0 < i := by decide) (hx : XLe oN ow := by first | exact Or.inl rfl | exact XLe.refl | exact Or.inr ⟨rfl, by intro q z; cases z; intro _; rfl⟩) : PS X st (tS3 fr X.K W ow oN oB (asg (gnm i) m)) :=
  PS.of h fun D σ H ⟨A, H0, O, en, R, q⟩ => ⟨A, H0, O, en, R, ((Out.bind q).se R).good fun d q1 a H1 n s1 r1 => by
    have hNi : oN i = true := by rw [hN]; simp
    have hxi : ∀ q, oN.x = some q → q.i ≠ i := fun q hq z => by
      rcases hx with hx | ⟨hx, _⟩
      · rw [hx] at hq
        cases hq
      · have z2 := (R.exq q (hx ▸ hq)).own
        rw [z, hi] at z2
        cases z2
    obtain ⟨R2, mv⟩ := (R.opens hi hN hx).take s1 hxi hNi h0 n r1
    rw [List.set_set] at R2
    exact q1 _ _ H1 R2 mv⟩
theorem c_if (hc : PT X a (tT X.K W ow t)) (hb : PSs X body (tS3 fr X.K W ow oN oB u)) (ho : PSs X orelse (tS3 fr X.K W ow oN oB v)) : PS X (.If a body orelse pos) (tS3 fr X.K W ow oN oB (ite t u v)) :=
  PS.of (ps_if hc hb ho) fun D σ H ⟨A, H0, O, en, R, q⟩ => ⟨A, H0, O, en, R, ((Out.bind q).se R).good fun k q1 H1 s1 => by
    cases k with
    | true =>
      rw [if_pos rfl] at q1 ⊢
      exact ⟨A, H0, O, en, R.to s1, q1.good fun f q2 => q2.to (Mv.same s1)⟩
    | false =>
      rw [if_neg (by decide)] at q1 ⊢
      exact ⟨A, H0, O, en, R.to s1, q1.good fun f q2 => q2.to (Mv.same s1)⟩⟩
theorem s_dead3 : PS X st (tS3 fr X.K W ow oN oB dead) := ⟨fun pins s σ H D I ⟨A, H0, O, en, R, q⟩ => (q : False).elim⟩
end
end Py

/-! Defs that give back a new list: their caller owns it. -/
namespace Py
open PySem L2
section
variable {X : Cx} {W : WX} {ow oN oB : Ow} {a : Expr} {m : EM} {pos : Pos}
/-- return [..] -/
theorem s_retF (h : PE X a (tF X.K W ow.off m)) : PS X (.Return (some a) pos) (tS3 true X.K W ow oN oB (ret m)) :=
  PS.of (ps_ret h) fun D σ H ⟨A, H0, O, en, R, q⟩ => ⟨A, _, _, en, R.freeze, ((Out.bind (show Out (ret m en) _ (badS X.K W A ⟨H0.hp, none⟩) from q)).se R.freeze).good fun d q1 b H1 n s1 r1 => by
    refine q1 (.ref b) H1 (R.same.trans s1) ⟨b, rfl, ?_, r1.move (Mv.less fun c hc => hc.elim (fun z => .inl (.inl z)) .inr) rfl⟩
    cases z : H0.hp b with
    | none => rfl
    | some o =>
      rw [R.same b o z] at n
      cases n⟩
/-- return x, x's own list -/
theorem s_retO {i : Nat} (h : PE X a (tVar i)) (hi : ow i = true) : PS X (.Return (some a) pos) (tS3 true X.K W ow oN oB (ret (var i))) :=
  PS.of (ps_ret h) fun D σ H ⟨A, H0, O, en, R, q⟩ => by
    obtain ⟨d, hd, q1⟩ := var_ok (show Out (var i en >>= fun d => Res.ok (Fl.ret d)) _ _ from q)
    obtain ⟨b, p1, p2, p3⟩ := R.owns i d hd hi
    refine ⟨.ref b, p2, ?_⟩
    have q2 : EndOk3 true X.K A H0 oN oB O H D (.ret d) := q1
    refine q2 (.ref b) H R.same ⟨b, rfl, (R.fresh i b p1).1, p3.move (Mv.less fun c hc => hc.elim .inl fun z => .inr ⟨i, by rw [z]; exact p1⟩) rfl⟩
end
def spF (K : Frag) (p : Nat) (m : List D → Res D) : Sp := fun vs H Q E => ∃ A ds, RepL K A H ds vs ∧ ds.length = p ∧ (∀ a, A a → H a ≠ none) ∧
  Out (m ds) (fun d => (d = .non → ∀ H', Same H H' → Q .non H') ∧ ∀ a H', H a = none → Same H H' → OwnAt K (fun b => A b ∨ b = a) H' a d → Q (.ref a) H') (fun c fs => ∀ da H' fvs, Same H H' → H' da = some (.xd fvs) → RepF K A H' fs fvs → E (.ref (ca K c)) (some da) H')
theorem spF_le {K : Frag} {p : Nat} {m : List D → Res D} {vs : List V} {H : Hp} {Q : VK} {E : XK} (h : spM K p m vs H Q E) : spF K p m vs H Q E := by
  obtain ⟨A, ds, r, hl, ha, q⟩ := h
  refine ⟨A, ds, r, hl, ha, q.good fun d k => ⟨fun e H' s => ?_, fun a H' n s o => k (.ref a) H' s ?_⟩⟩
  · subst e
    exact k .non H' s rfl
  · have na : ¬ A a := fun z => ha a z n
    have mv : Mv (fun b => A b ∨ b = a) H' A H' := Mv.less fun b x => .inl x
    cases d with
    | lst ds =>
      obtain ⟨vs, e1, r1⟩ := o
      simp only [Rep]
      exact ⟨a, vs, rfl, na, .inl e1, RepL.move mv _ _ r1⟩
    | ins c fs =>
      obtain ⟨dx, fvs, e1, r1⟩ := o
      simp only [Rep]
      exact ⟨a, dx, fvs, rfl, na, e1, RepF.move mv _ _ r1⟩
    | _ => exact o.elim
section
variable {P : Program} {w : World} {K : Frag} {mg : Str → Option Value} {base : Heap} {name qual : Str} {params : Arguments} {body : List Stmt} {scope : Scope} {dvs : List V} {kws : List (Str × V)} {f : Addr} {fd : FuncData} {N ps : List Str} {k : Nat} {ow oN oB : Ow} {m : SM}
theorem fn_okF (F : FunD K name qual params body scope dvs kws f fd) (S : FnScope N ps scope) (hx : ow.x = none) (hp : ∀ i, i < ps.length → ow i = false)
    (hb : ∀ (cdv : Value) (A : Around) (outer : List PySem.Env) (s : Shared) (H : Hp) (E : XK), Ctx (cxOf (L2N.CX P w) P w K mg base N qual scope f cdv A outer s H E) (WD E) k →
      PSs (cxOf (L2N.CX P w) P w K mg base N qual scope f cdv A outer s H E) body (tS3 true K (WD E) ow oN oB m)) :
    FnOk P w K mg base (L2N.CX P w) (k + 1) f fd ps (spF K ps.length (fn ps.length N.length m)) := by
  refine F.ok S (fun vs H Q E ⟨A, ds, r, h, _⟩ => r.length.symm.trans h) (fun cdv A outer s H vs Q E hr h => ?_)
  obtain ⟨AV, ds, r, hl, ha, q⟩ := h
  refine ⟨tS3 true K (WD E) ow oN oB m, hb cdv A outer s H E ⟨rfl, L2N.takes_of rfl rfl rfl rfl, passes_of rfl, hr, S.nd⟩, AV, ⟨H, none⟩, fun _ => none, ds.map some ++ List.replicate (N.length - ps.length) none, ?_, ?_⟩
  · have hlv := r.length
    have hN : ps.length ≤ N.length := by
      have := S.pre
      have h2 := congrArg List.length this
      rw [List.length_take] at h2
      omega
    refine ⟨?_, ha, Same.refl H, fun i d h1 h2 => ?_, fun i d h1 h2 => ?_, fun i a h => (nomatch h), fun i j a h => (nomatch h), fun a h => (nomatch h), XFact.none hx⟩
    · unfold L2.start
      simp only [List.length_append, List.length_map, List.length_replicate]
      omega
    · by_cases hi : i < ds.length
      · rw [List.getElem?_append_left (by simpa using hi), List.getElem?_map, List.getElem?_eq_getElem hi] at h1
        simp only [Option.map_some, Option.some.injEq] at h1
        subst h1
        obtain ⟨v, hv, rv⟩ := r.get (List.getElem?_eq_getElem hi)
        exact ⟨v, start_get hv, Rep.move (Mv.less fun b hb => hb.elim id fun ⟨_, z⟩ => nomatch z) _ _ rv⟩
      · rw [List.getElem?_append_right (by simpa using hi)] at h1
        rw [List.getElem?_replicate] at h1
        split at h1 <;> cases h1
    · by_cases hi : i < ds.length
      · rw [hp i (by omega)] at h2
        cases h2
      · rw [List.getElem?_append_right (by simpa using hi)] at h1
        rw [List.getElem?_replicate] at h1
        split at h1 <;> cases h1
  · unfold fn at q
    rw [if_pos hl] at q
    cases e : m (ds.map some ++ List.replicate (N.length - ps.length) none) with
    | ok fl =>
      rw [e] at q
      cases fl with
      | next e' => exact fun O' σ' H' R' _ => q.1 rfl H' R'.same
      | ret d =>
        refine fun v H' s' ⟨a, e1, n, r'⟩ => ?_
        rw [e1]
        exact q.2 a H' n s' r'
      | brk e' => exact q.elim
      | cnt e' => exact q.elim
    | exc c fs =>
      rw [e] at q
      exact fun σ' da H' fvs s' q' r' => q da H' fvs s' q' r'
    | stuck =>
      rw [e] at q
      exact q.elim
end
/-- the name x calls a def that gives back a new list -/
def CallF (P : Program) (w : World) (K : Frag) (mg : Str → Option Value) (base : Heap) (k : Nat) (x : Str) (d : He.DefD) (ps : List Str) (n : Nat) (fm : List D → Res D) : Prop := ∃ f fd, mg x = some (.ref f) ∧ PySem.W.keepIn K (.ref f) = true ∧ Binds K fd ps [] ∧ FnOk P w K mg base (L2N.CX P w) k f fd ps (spF K n fm) ∧ Ar n fm ∧ FunD K d.name d.qual d.params d.body d.scope [] [] f fd
theorem CallF.le {P : Program} {w : World} {K : Frag} {mg : Str → Option Value} {base : Heap} {k : Nat} {x : Str} {d : He.DefD} {ps : List Str} {n : Nat} {fm : List D → Res D} (C : CallF P w K mg base k x d ps n fm) : CallOk P w K mg base k x d ps n fm := by
  obtain ⟨f, fd, h1, h2, h3, h4, h5⟩ := C
  exact ⟨f, fd, h1, h2, h3, h4.imp fun _ _ _ _ z => spF_le z, h5⟩
section
variable {P : Program} {w : World} {K : Frag} {mg : Str → Option Value} {base : Heap} {k : Nat} {ow oN oB : Ow} {m : SM} {f : Addr} {N ps : List Str} {p n : Nat}
theorem def_okF {d : He.DefD} (F : ∃ fd, FunD K d.name d.qual d.params d.body d.scope [] [] f fd) (g : mg d.name = some (.ref f)) (S : FnScope N ps d.scope) (hpl : ps.length = p) (hnl : N.length = n) (hp : ∀ i, i < p → ow i = false)
    (hbind : ∀ (kV doc pm : Value) (an : Option Addr) (cdv ct : Value) (us : List Value), us.length = ps.length → bindArgs (PySem.W.fnOf d.name d.qual d.params d.body d.scope .none kV doc pm an cdv ct) ⟨us, []⟩ = pure (ps.zip us))
    (hb : ∀ (cdv : Value) (A : Around) (outer : List PySem.Env) (s : Shared) (H : Hp) (E : XK), Ctx (cxOf (L2N.CX P w) P w K mg base N d.qual d.scope f cdv A outer s H E) (WD E) k →
      PSs (cxOf (L2N.CX P w) P w K mg base N d.qual d.scope f cdv A outer s H E) d.body (tS3 true K (WD E) ow oN oB m)) (hx : ow.x = none := by rfl) : CallF P w K mg base (k + 1) d.name d ps p (fn p n m) := by
  obtain ⟨fd, F⟩ := F
  subst hpl hnl
  exact ⟨f, fd, g, F.kp, FunD.bindsN F hbind, fn_okF F S hx hp hb, ar_fn, F⟩
end
section
variable {X : Cx} {W : WX} {ow : Ow} {e : Expr} {es : List Expr} {am : AM} {pos p : Pos} {k j n : Nat} {x : Str} {fm : List D → Res D} {d : He.DefD} {ps : List Str}
/-- f(..), what comes back is new -/
theorem f_own1 (T : Ctx X W j) (C : CallF X.prog X.w X.K X.mg X.base k x d ps n fm) (hk : k ≤ j) (hg : Gl X x) (ha : PA X (e :: es) (aE X.K W ow am)) (hdb : (x == ("__debug__" : Str)) = false := by decide)
    (he : starEach (e :: es) X.env = (false, eval e X.env) :: starEach es X.env := by rfl) (hpl : (backTo pos (starEach es X.env)).any (·.1) = false := by rfl) : PE X (.Call (.Name x p) (e :: es) [] pos) (tF X.K W ow (callF fm am)) := by
  obtain ⟨f, fd, h1, h2, h3, h4, hn, _⟩ := C
  refine PE.of (pe_callSD (E := WE W) h4 (T.hr.mono hk) hg h1 h2 h3 .nil (fun σ => L2N.passAt T.tk σ) ha hdb he hpl) fun σ H Q ⟨A, H0, O, en, R, q⟩ => ?_
  refine ⟨A, H0, O, en, R, (Out.bind q).good fun ds q1 vs H1 s1 r1 => ?_⟩
  dsimp only
  rw [List.append_nil]
  refine ⟨AO A O, ds, paired_rep r1, ?_, (R.to s1).there, ?_⟩
  · cases e : fm ds with
    | ok d => exact hn.ok ds d e
    | exc c fs => exact hn.ex ds c fs e
    | stuck =>
      rw [e] at q1
      exact q1.elim
  · cases e : fm ds with
    | ok d =>
      rw [e] at q1
      cases d with
      | non => exact q1.elim
      | _ =>
        refine ⟨fun z => (nomatch z), fun a H2 n s2 r2 => ?_⟩
        exact q1 a H2 (by
          cases z : H a with
          | none => rfl
          | some o =>
            rw [s1 a o z] at n
            cases n) (s1.trans s2) r2
    | exc c fs =>
      rw [e] at q1
      exact fun da H2 fvs s2 q2 r2 => q1 da H2 fvs (s1.trans s2) q2 r2
    | stuck =>
      rw [e] at q1
      exact q1.elim
end
end Py

/-! More expressions. -/
namespace Py
open PySem L2
theorem RepL.flat {K : Frag} {A : AS} {H : Hp} {ds : List D} {vs : List V} (h : RepL K A H ds vs) : ∀ n : Nat, RepL K A H (List.replicate n ds).flatten (List.replicate n vs).flatten
  | 0 => by simp [RepL]
  | n + 1 => by
    rw [List.replicate_succ, List.replicate_succ, List.flatten_cons, List.flatten_cons]
    exact h.append (RepL.flat h n)
section
variable {X : Cx} {W : WX} {ow : Ow} {a b : Expr} {ma mb : EM} {pos : Pos}
/-- [..] * n -/
theorem f_rep (ha : PE X a (tF X.K W ow ma)) (hb : PE X b (tW X.K W ow mb)) : PE X (.BinOp a .Mult b pos) (tF X.K W ow (bin olrep ma mb)) :=
  PE.of (pe_op op_rep ha hb) fun σ H Q ⟨A, H0, O, en, R, q⟩ => by
    refine ⟨A, H0, O, en, R, (Out.bind q).good fun d1 q1 l H1 n1 s1 r1 => ?_⟩
    refine ⟨A, H0, O, en, R.to s1, ((Out.bind q1).to s1).good fun d2 q2 v2 H2 s2 r2 => ?_⟩
    cases d1 with
    | lst xs =>
      cases d2 with
      | int k =>
        obtain ⟨vs, e1, p1⟩ := r1
        have e2 : v2 = .int k := rep_int r2
        subst e2
        by_cases hc : xs.length ≤ 1000 ∧ k.natAbs ≤ 1000
        · have e3 : olrep (.lst xs) (.int k) = .ok (.lst (List.replicate k.toNat xs).flatten) := if_pos hc
          rw [e3] at q2
          have q3 := q2
          have hl := p1.length
          refine ⟨l, k, vs, rfl, rfl, s2 _ _ e1, by omega, by omega, ?_, fun p hp => ?_⟩
          · have : vs.length * k.toNat ≤ 1000 * 1000 := Nat.mul_le_mul (by omega) (by omega)
            exact Nat.le_trans this (by decide)
          · have s12 := s1.trans s2
            have np1 : H1 p = none := by
              cases z : H1 p with
              | none => rfl
              | some o =>
                rw [s2 p o z] at hp
                cases hp
            have np : H p = none := by
              cases z : H p with
              | none => rfl
              | some o =>
                rw [s12 p o z] at hp
                cases hp
            have s3 : Same H2 (upd H2 p (.lst (List.replicate k.toNat vs).flatten)) := new_same hp
            refine q3 p _ np (s12.trans s3) ⟨_, upd_same, RepL.move ⟨fun b hb => ?_, fun b o e hb => (s2.trans s3) b o e⟩ _ _ (p1.flat k.toNat)⟩
            rcases hb with hb | hb
            · exact .inl (.inl hb)
            · rw [hb]
              exact .inr np1
        · have e3 : olrep (.lst xs) (.int k) = .stuck := if_neg hc
          rw [e3] at q2
          exact q2.elim
      | _ => exact (q2 : False).elim
    | _ => exact (show False from q2).elim
end
end Py

/-! The __init__ of an own exception: super().__init__(..), then its fields. -/
namespace Py
open PySem L2 PyProof.Rows
/-- an exception's __init__ that keeps what it is given, under these names -/
def spX (C : Addr) (n : Nat) (fs : List Str) : Sp := fun vs H Q E => ∃ a H1 ws, vs = .ref a :: ws ∧ H = upd H1 a (exo a C none) ∧ H1 a = none ∧ ws.length = n ∧
  ∀ d H2, H2 a = some (exo a C (some d)) → H2 d = some (exd d (fs.zip ws).reverse) → H1 d = none → d ≠ a → (∀ b, b ≠ a → b ≠ d → H2 b = H1 b) → Q .non H2
/-- what the written part tells of the class C whose __init__ is f -/
structure XIn (P : Program) (K : Frag) (C f cc cda : Addr) (nm qual : Str) (params : Arguments) (body : List Stmt) (scope : Scope) (fd : FuncData) : Prop where
  fn : ∃ (oc : Value) (od : Option Addr) (dV kV doc pm : Value) (an : Option Addr) (ct : Value) (osl : Array (Option Value)),
    fd = PySem.W.ksFn nm qual params body scope dV kV doc pm an (.ref cda) ct cc ∧ K.lookup f = some ⟨oc, od, .func fd, osl⟩
  cd : PySem.W.codeIn K (.ref cda) qual = true
  fl : ∃ (ccl : Value) (cdd : Option Addr) (vs : Array Value) (ccs : Array (Option Value)) (file : Str) (tf : Tok), K.lookup cda = some ⟨ccl, cdd, .fields vs, ccs⟩ ∧ vs[2]? = some (.str file tf) ∧ ((P.main.file : Str) == file) = true
  cell : ∃ (cl : Value) (cld : Option Addr) (csl : Array (Option Value)), K.lookup cc = some ⟨cl, cld, .cell (some (.ref C)), csl⟩
  T : OexC K C
  sup : PySem.W.ks_superIn K C C "__init__" = some (some (.builtin "ValueError.__init__"))
  ve : PySem.W.subIn K (.ref C) (.type "ValueError") = some true
  me : PySem.W.mroIn K C (.ref C) = some true
  thi : PySem.W.nsIn K cStatics "thirdparty.any" = some none
theorem oexC_cd {K : Frag} {C : Addr} (T : OexC K C) : ∃ (cd : ClassData) (dd : Option Addr) (sl : Array (Option Value)), PySem.W.clsIn K C = some cd ∧ K.lookup C = some ⟨.type "type", dd, .cls cd, sl⟩ := by
  obtain ⟨nm, q, N, bs, bm, sn, sub, ab, col, dd, k0, k1, k2, k3, k5, hC, hbm⟩ := T.cls
  exact ⟨_, dd, _, by unfold PySem.W.clsIn; rw [hC] <;> rfl, hC⟩
theorem hv_super : bootBuiltins "super" = some (.type "super") := by decide +kernel
section
variable {P : Program} {w : World} {K : Frag} {mg : Str → Option Value} {base : Heap} {C f cc cda : Addr} {nm qual self txt : Str} {params : Arguments} {body rest : List Stmt} {scope : Scope} {fd : FuncData} {N ps fs : List Str} {k : Nat} {ar : Arg}
theorem callWith_kxs {M : Model} {A : Around} {E : Value → Shared → Prop} {s : Shared} {i : String} {u x : Addr} {pos : Pos} {env : PySem.Env} {e : Expr} {es : List Expr} {Q : Value → Shared → Prop}
    (h : wpAny M A (spliced (backTo pos (starEach (e :: es) env))) (fun vs s₁ => PySem.W.KxsAt i u x s₁.heap ∧ wpAny M A (PySem.call (.ref u) vs) Q E s₁) E s)
    (he : starEach (e :: es) env = (false, eval e env) :: starEach es env := by rfl) (hplain : (backTo pos (starEach es env)).any (·.1) = false := by rfl) :
    wpAny M A (callWith pos (.ref u) [] (backTo pos (starEach (e :: es) env)) []) Q E s := by
  rw [he] at h ⊢
  refine PySem.W.kxs_callWith (i := i) (x := x) (by show (false || (backTo pos (starEach es env)).any (·.1)) = false; rw [hplain]; rfl) ?_
  exact PySem.Calls.evalArgs_plain h
/-- super().__init__(..) called: the object keeps its shape -/
theorem kxs_done {X : Cx} {pins : List (Addr × Obj)} {σ : L2.St} {H : Hp} {s : Shared} {A : Around} {E : Value → Shared → Prop} {u a C : Addr} {us : List Value} {Q : Value → Shared → Prop} (T : OexC X.K C) (I : Inv X pins σ H s) (e : H a = some (exo a C none)) (hu : s.heap.get? u = some (PySem.W.kxs_mw "ValueError.__init__" a))
    (hl : us.length ≤ sizeLine) (h : ∀ s', Inv X pins σ H s' → Q .none s') : wpAny (model X.prog X.w) A (PySem.call (.ref u) us) Q E s := by
  obtain ⟨nm, q, N, bs, bm, sn, sub, ab, col, dd, k0, k1, k2, k3, k5, hC, hbm⟩ := T.cls
  obtain ⟨t1, ho⟩ := exo_at I.hok e
  have hCh := I.kIn _ _ hC
  obtain ⟨hp, g, d, t, os⟩ := s
  refine wpAny_call (codeAny_of_tree ?_)
  show wpAny _ A.in1 (callAny (.ref u) ⟨us, []⟩) _ _ _
  simp only [callAny]
  refine wpAny_bind (wpAny_load hu ?_)
  simp only [PySem.W.kxs_mw, show (Value.type "method-wrapper" == Value.type "method" || Value.type "method-wrapper" == Value.type "builtin_function_or_method" || Value.type "method-wrapper" == Value.type "method-wrapper") = true by decide, if_true]
  refine PySem.W.KFB.if_so (by decide) ?_
  refine wpAny_bind (PySem.W.check_bound_init PySem.F.excBase_ValueError.toExcCallFacts hCh ho rfl ?_)
  refine wpAny_bind (wpAny_pure (wpAny_pure ?_))
  refine ⟨plainId_quiet PySem.F.excBase_ValueError.init.plain _, codeAny_builtin PySem.F.excBase_ValueError.initEntry ?_⟩
  refine PySem.W.exc_init_tree (cls := .ref C) (t0 := t1) (dv := none) (c2 := .none) (c3 := .none) (b4 := .bool false) ho hl fun h' kp hx ht => ?_
  have J := I.write (t' := t) (x := a) (e := a) (o := exo a C none) (by rw [e]; exact True.intro) (.inl rfl) kp ⟨_, hx⟩ (exo_ok hx)
  have eu : upd H a (exo a C none) = H := by
    funext b
    by_cases hb : b = a
    · rw [hb, upd_same, e]
    · rw [upd_ne hb]
  rw [eu] at J
  exact h _ J
theorem xinit_ok {n : Nat} (XI : XIn P K C f cc cda nm qual params body scope fd) (hps : ps = self :: fs) (hlen : fs.length = n) (S : NdefX.NScope N ps ["__class__"] scope) (har : (params.posonlyargs ++ params.args).head? = some ar) (hself : ar.arg = self)
    (hmg : mg "super" = none) (hsk : scope.names.lookup ("super" : Str) = some .globalImplicit) (htop : (P.main.scope.names.lookup ("super" : Str)).isSome = false)
    {p0 p1 p2 p3 p4 p5 : Pos} {j : Nat}
    (hbody : body = .Expr (.Call (.Attribute (.Call (.Name "super" p0) [] [] p1) "__init__" p2) [.Constant (.str txt) j p3] [] p4) p5 :: rest)
    {t : TS} (hb : ∀ (A : Around) (outer : List PySem.Env) (s : Shared) (H : Hp) (E : XK), PSs (NdefX.ncx (L2N.CX P w) P w K mg base N ⟨nm, qual, params, body, scope, [("__class__", cc)], cda⟩ f A outer s H E) rest t)
    (ht : ∀ (a : Addr) (ws : List V) (H1 : Hp) (D : Ends) (σ : L2.St), σ[0]? = some (some (.ref a)) → (∀ i v, ws[i]? = some v → σ[i + 1]? = some (some v)) → ws.length = n → H1 a = none →
      (∀ d H2 σ', H2 a = some (exo a C (some d)) → H2 d = some (exd d (fs.zip ws).reverse) → H1 d = none → d ≠ a → (∀ b, b ≠ a → b ≠ d → H2 b = H1 b) → D.nx σ' H2) → t D σ (upd H1 a (exo a C none)))
    (hin : ∀ (L : Addr), interactive (PySem.W.ksEnv qual scope L f (.ref cda) cc) = false := by intro _; rfl)
    (hsw : ∀ (L : Addr), swapsWith (.Call (.Attribute (.Call (.Name "super" p0) [] [] p1) "__init__" p2) [.Constant (.str txt) j p3] [] p4) none p5.line (PySem.W.ksEnv qual scope L f (.ref cda) cc) = pure false := by intro _; rfl)
    {pl : Sem Bool} (hea : ∀ (L : Addr), eval (.Call (.Attribute (.Call (.Name "super" p0) [] [] p1) "__init__" p2) [.Constant (.str txt) j p3] [] p4) (PySem.W.ksEnv qual scope L f (.ref cda) cc) = (do
      let ov ← attributeBase (.Call (.Name "super" p0) [] [] p1) "__init__" (PySem.W.ksEnv qual scope L f (.ref cda) cc) (eval (.Call (.Name "super" p0) [] [] p1) (PySem.W.ksEnv qual scope L f (.ref cda) cc))
      standAt p2.atName
      let (g, first) ← holding [ov] (getMethod ov "__init__" pl)
      callWith p4 g first (backTo p4 (starEach [.Constant (.str txt) j p3] (PySem.W.ksEnv qual scope L f (.ref cda) cc))) []) := by intro _; rfl)
    (hst : ∀ (L : Addr), starEach [.Constant (.str txt) j p3] (PySem.W.ksEnv qual scope L f (.ref cda) cc) = [(false, eval (.Constant (.str txt) j p3) (PySem.W.ksEnv qual scope L f (.ref cda) cc))] := by intro _; rfl) :
    FnOk P w K mg base (L2N.CX P w) (k + 1) f fd ps (spX C n fs) := by
  subst hps
  obtain ⟨oc, od, dV, kV, doc, pm, an, ct, osl, rfl, lk⟩ := XI.fn
  obtain ⟨ccl, cdd, cvs, ccs, file, tf, hcode, hvs, hfile⟩ := XI.fl
  obtain ⟨cl, cld, csl, hcell⟩ := XI.cell
  obtain ⟨cdC, ddC, slC, hcls, hClk⟩ := oexC_cd XI.T
  have len : ∀ vs H Q E, spX C n fs vs H Q E → vs.length = (self :: fs).length := fun vs H Q E ⟨a, H1, ws, e, _, _, l, _⟩ => by
    rw [e, List.length_cons, List.length_cons, l, hlen]
  refine ⟨len, fun A outer s H args us vs Q E hr e0 hbi r hsp => ?_⟩
  have hl := len _ _ _ _ hsp
  obtain ⟨a, H1, ws, rfl, rfl, ha, hwl, q⟩ := hsp
  have KX : K.In s.heap := e0.mod.kin.keeps fun b o e => (e0.bs b o e).1
  have lim : s.heap.NoLimit := e0.mod.nolimit.keeps fun b o e => (e0.bs b o e).1
  refine ks_codeAny_call_defAt (binds := (self :: fs).zip us) (body := body) hr.depth (KX _ _ lk) rfl lim (PySem.W.codeRec_of KX XI.cd) rfl hbi S.nocell (fun ⟨m, _⟩ hy => S.par m (List.of_mem_zip hy).1) (fun h₁ hns kp => ?_) S.co S.gen S.kind
  have hbase : K.In base := e0.mod.kin
  have hcB : base.get? cc = some ⟨cl, cld, .cell (some (.ref C)), csl⟩ := hbase _ _ hcell
  have CA : NdefX.CellsAt [("__class__", cc)] ["__class__"] [none] s.heap (upd H1 a (exo a C none)) := by
    refine ⟨rfl, fun y c e => ?_, fun x y c e1 e2 => ?_, fun i y e => ?_⟩
    · have hc : c = cc := by
        have := PySem.mem_of_lookup e
        simpa using (Prod.mk.inj (List.mem_singleton.mp this)).2
      subst hc
      exact ⟨(e0.bs _ _ hcB).2, _, _, (e0.bs _ _ hcB).1, rfl⟩
    · have h1 := (Prod.mk.inj (List.mem_singleton.mp (PySem.mem_of_lookup e1))).1
      have h2 := (Prod.mk.inj (List.mem_singleton.mp (PySem.mem_of_lookup e2))).1
      exact h1.trans h2.symm
    · cases i with
      | zero =>
        simp only [List.getElem?_cons_zero, Option.some.injEq] at e
        subst e
        exact ⟨cc, rfl, fun v z => by simp at z⟩
      | succ i => simp at e
  have I := NdefX.inv_startN (CX := L2N.CX P w) (f := f) (E := E) (F := ⟨nm, qual, params, body, scope, [("__class__", cc)], cda⟩) (tk := s.toks + ((self :: fs).zip us).length) S hr.hd e0 hl r CA hns kp
  obtain ⟨u0, us', rfl, ru0⟩ : ∃ u0 us', us = u0 :: us' ∧ L2.RelV (.ref a) u0 := by
    cases r with
    | cons r1 r2 => exact ⟨_, _, rfl, r1⟩
  obtain rfl : u0 = Value.ref a := ru0
  have hv : ((self :: fs).zip (Value.ref a :: us')).reverse.lookup self = some (.ref a) := by
    have nd : (self :: fs).Nodup := by
      have q := S.nd.sublist (List.take_sublist ((self :: fs).length + (["__class__"] : List Str).length) N)
      rw [S.pre] at q
      exact (List.nodup_append.mp q).1
    exact NdefX.zip_look (i := 0) nd rfl rfl
  have ea : (upd H1 a (exo a C none)) a = some (exo a C none) := upd_same
  subst hbody
  refine ks_wpAt_execs_cons (ks_wpAt_Expr_any (ks_wpAt_MethodCall (pl := pl) ?_ (hea _)) (hin _) (hsw _))
  refine ks_wpAt_super_base (f := f) (cc := cda) (ar := ar) hsk (S.frk _ List.mem_cons_self) rfl rfl (I.kIn _ _ lk) rfl har rfl (I.kIn _ _ hcode) rfl hvs hfile htop ?_
  obtain ⟨mb, hmb, hmb2⟩ := I.mod.blt
  refine PySem.W.ks_loadName_global S.kind hsk (PySem.Calls.loadGlobal_builtin (I.mod.glob.keeps I.bk) hmg (hmb.keeps I.bk) ((hmb2 "super" (by decide)).trans hv_super) ⟨rfl, ?_⟩)
  refine wpAny_loadName_free S.kind (S.frk _ List.mem_cons_self) rfl ⟨_, I.kIn _ _ hcell, rfl⟩ ?_
  refine wpAny_loadName_local S.kind (by rw [hself]; exact S.par _ List.mem_cons_self) hns (by rw [hself]; exact hv) ?_
  refine ks_wpAny_isType_cls (I.kIn _ _ hClk) rfl ⟨rfl, ?_⟩
  obtain ⟨t1, hat⟩ := exo_at I.hok ea
  refine ks_wpAny_call_super (I.kIn _ _ hClk) rfl hat rfl (fun c z => nomatch z) (PySem.W.looks_mroIn I.kIn XI.me) fun h2 hso kp2 => ?_
  have I2 := I.kept (t' := s.toks + ((self :: fs).zip (Value.ref a :: us')).length) kp2
  have hmr : PySem.W.Looks (model P w) h2 (mroOf (.ref C)) cdC.mro := fun A Q E s k q => wpAny_bind ((PySem.W.looks_clsIn I2.kIn hcls) A _ E s k (wpAny_pure q))
  have hsup := XI.sup
  unfold PySem.W.ks_superIn at hsup
  rw [hcls] at hsup
  have hat2 := kp2 _ _ hat
  have hIA : PySem.W.InstAt h2 a { cls := .ref C, dict := none, data := .fields #[.ref t1, .none, .none, .none, .bool false, .none] } C none := ⟨hat2, rfl, rfl, trivial⟩
  refine PySem.W.kxs_getMethod PySem.W.kxs_ValueError hso (PySem.W.looks_opaque I2.kIn XI.thi) hmr rfl I2.kIn hsup (hIA.type.andThen (PySem.W.looks_subIn I2.kIn XI.ve)) (PySem.W.ks_ne I2.kIn hIA hcls) (by decide) ?_
  have kp3 : ∀ b o, h2.get? b = some o → (h2.push (PySem.W.kxs_mw "ValueError.__init__" a)).get? b = some o := fun b o e => Heap.get?_push_of_some _ e
  have hu : (h2.push (PySem.W.kxs_mw "ValueError.__init__" a)).get? h2.objs.size = some (PySem.W.kxs_mw "ValueError.__init__" a) := Heap.get?_push_size _ rfl
  have I3 := I2.kept (t' := s.toks + ((self :: fs).zip (Value.ref a :: us')).length + 1) kp3
  have I4 := I3.pins_of (pins' := [(h2.objs.size, PySem.W.kxs_mw "ValueError.__init__" a)]) fun p hp => by
    obtain rfl := List.mem_singleton.mp hp
    exact ⟨hu, I2.hok.fresh (Nat.le_refl _), Nat.ne_of_gt I2.lt, I2.nofs (Nat.le_refl _), fun v z => nomatch z⟩
  refine callWith_kxs (i := "ValueError.__init__") (u := h2.objs.size) (x := a) ?_ (hst _) rfl
  have ha1 := (pa_cons (pe_str (x := txt) (j := j) (pos := p3)) pa_nil (hst s.heap.objs.size)).run p4 _ _ _ _ (fun vs H2 => vs.length ≤ sizeLine ∧ H2 = upd H1 a (exo a C none)) I4 ⟨by rw [sizeLine_eq]; simp, rfl⟩
  refine wpAny_mono ha1 (fun us2 s2 ⟨vs, H2, I5, r5, hl5, e5⟩ => ?_) fun e s' z => z
  subst e5
  have hu5 := (I5.pin (h2.objs.size, PySem.W.kxs_mw "ValueError.__init__" a) (List.mem_append_right _ List.mem_cons_self)).1
  refine ⟨hu5, ?_⟩
  refine kxs_done XI.T I5 ea hu5 (by rw [← r5.length]; exact hl5) fun s' I6 => ?_
  refine PySem.wpAt_of_wpAny ?_
  have I' := I6.unpinned (pins := []) 
  refine wpAny_mono ((hb A outer s (upd H1 a (exo a C none)) E).run [] _ _ _ { nx := fun _ H' => Q .non H', rt := fun _ _ => False } I' (ht a ws H1 _ _ rfl (fun i v hi => ?_) hwl ha fun d H2 σ' k1 k2 k3 k4 k5 => q d H2 k1 k2 k3 k4 k5)) (fun fl s' hs => ?_) fun e s' hs => hs
  · unfold NdefX.startF
    have hi2 := (List.getElem?_eq_some_iff.mp hi).1
    rw [List.getElem?_append_left (by simpa using hi2)]
    simp [hi]
  · cases fl with
    | next =>
      obtain ⟨σ', H', J, q⟩ := hs
      exact ⟨.non, H', J.os, J.bare, J.base, J.hok, rfl, q⟩
    | ret u =>
      obtain ⟨_, _, _, _, _, q⟩ := hs
      exact q.elim
    | brk =>
      obtain ⟨_, _, _, q⟩ := hs
      exact False.elim q
    | cont =>
      obtain ⟨_, _, _, q⟩ := hs
      exact False.elim q
end
section
variable {X : Cx} {CX : CXT} {x : Str} {C fI : Addr} {k : Nat} {fd : FuncData} {ps : List Str} {sp : Sp} {e : Expr} {es : List Expr} {ta : TA} {p pos : Pos}
/-- C(e, ..) makes an error that came out of nothing -/
theorem pmkN (T : OexC X.K C) (iC : PySem.W.findIn X.K (.ref C) "__init__" = some (some (.ref fI))) (tI : PySem.W.typeIn X.K (.ref fI) = some (.type "function"))
    (F1 : FnOk X.prog X.w X.K X.mg X.base CX k fI fd ps sp) (hr : Room (k + 1) X.A) (hb : Binds X.K fd ps []) (hx : Passes CX X (fun _ _ _ => False)) (hg : Gl X x) (hm : X.mg x = some (.ref C)) (ha : PA X (e :: es) ta)
    (hdb : (x == ("__debug__" : Str)) = false) (he : starEach (e :: es) X.env = (false, eval e X.env) :: starEach es X.env) (hpl : (backTo pos (starEach es X.env)).any (·.1) = false) :
    L2N.PMk X (.Call (.Name x p) (e :: es) [] pos) (tMkO C sp [] ta) := by
  intro pins s0 σ H Q I h
  have key : ∀ (us : List Value) (s : Shared), (∃ (vs : List V) (H1 : Hp), Inv X pins σ H1 s ∧ Vals vs us ∧ vs.length ≤ 1000 ∧ ∀ a, H1 a = none → sp (.ref a :: (vs ++ [])) (upd H1 a (exo a C none))
      (fun v H2 => v = .non ∧ ∃ (d : Addr) (fs : List (Str × V)), H2 a = some (exo a C (some d)) ∧ H2 d = some (exd d fs) ∧ H1 d = none ∧ Q (.ref C) (some d) (upd (del H2 a) d (.xd fs))) (fun _ _ _ => False)) →
      wpAny (model X.prog X.w) X.A (PySem.call (.ref C) us) (L2N.MkP X pins σ Q) X.xe s := by
    rintro us ⟨hp, g, dr, tk, os⟩ ⟨vs, H1, I1, r1, hz, q1⟩
    obtain ⟨nm, q, N, bs, bm, sn, sub, ab, col, dd, k0, k1, k2, k3, k5, hC, hbm⟩ := T.cls
    have hus : us.length ≤ sizeLine := by
      rw [← Paired.length r1, sizeLine_eq]
      omega
    have hsz : hp.objs.size ≤ hp.objs.size + 1 := Nat.le_add_right _ _
    have hq := q1 _ (I1.hok.fresh hsz)
    rw [List.append_nil] at hq
    have kk : ∀ b o, hp.get? b = some o → ((hp.push (PySem.W.kdv_tup us)).push (PySem.HandSPX.excO C hp.objs.size)).get? b = some o := fun b o z => Heap.get?_push_of_some _ (Heap.get?_push_of_some _ z)
    have new : ObjOk X.prog X.w (upd H1 (hp.objs.size + 1) (exo (hp.objs.size + 1) C none)) ((hp.push (PySem.W.kdv_tup us)).push (PySem.HandSPX.excO C hp.objs.size)) (hp.objs.size + 1) (exo (hp.objs.size + 1) C none) := exo_ok (t1 := hp.objs.size) (by heap_get)
    have I2 : Inv X pins σ _ ⟨_, g, dr, tk, os⟩ := I1.laid (t' := tk) kk hsz new
    have r2 : Vals (V.ref (hp.objs.size + 1) :: vs) (Value.ref (hp.objs.size + 1) :: us) := .cons rfl r1
    have hl2 := r2.length.symm.trans (F1.len _ _ _ _ hq)
    have b2 := hb _ (Value.ref (hp.objs.size + 1) :: us) I2.kIn (by rw [List.append_nil]; exact hl2)
    rw [List.append_nil] at b2
    have run := F1.run (X.A.under (.builtin "type.__call__" ⟨.ref C :: us, []⟩)) X.stack _ _ ⟨_, []⟩ _ _ _ _ (hr.make C us []) (I2.env0.make C us []) b2 r2 hq
    refine wpAny_call (PySem.HandSPX.call_own PySem.F.excBase_ValueError (fun Y => PySem.HandSPX.refsVE_contains Y bm hbm) (I1.kIn _ _ hC) (PySem.W.looks_findIn I1.kIn iC) (fun self => PySem.W.bind_fn I1.kIn self tI) hus (codeAny_mono run ?_))
    intro r s' hq'
    match r, hq' with
    | .error er, z => exact hx pins σ _ _ er s' I2 z
    | .ok (.ret u), z =>
      obtain ⟨v, H2, os2, bare2, un2, hok2, rv, ev, d, fs, ea, ed, hd1, q2⟩ := z
      subst ev
      obtain ⟨h2, g2, d2, t2, os'⟩ := s'
      obtain ⟨t0, G, J, kG, ge, hoe, na⟩ := mk_end0 (d2 := d2) (t2 := t2) I1 hsz kk un2 hok2 os2 bare2 ea ed hd1
      refine ⟨rv, ?_⟩
      exact ⟨_, _, _, ⟨G, g2, d2, t2, os'⟩, _, _, some d, rfl, J, kG, ge, hoe, ⟨rfl, rfl, fun ws hv => by cases hv <;> rfl⟩, rfl, rfl, na, rfl, bare2, raises_own T.exC T.tyC, q2⟩
    | .ok .next, z => exact False.elim z
    | .ok .brk, z => exact False.elim z
    | .ok .cont, z => exact False.elim z
  refine wpAny_Call_Name_kw (ld_glob I hg hm ?_ hdb)
  refine PySem.W.callWith_K (h₀ := X.base) I.ok.mod.kin T.kC (thn (ha.run pos pins s0 σ H _ I h) fun us s1 hh => ?_) he hpl
  obtain ⟨vs, H1, I1, r1, z⟩ := hh
  exact ⟨I1.kIn, key us s1 ⟨vs, H1, I1, r1, z⟩⟩
end
end Py

/-! Errors of own classes: what the head tells of them, raise. -/
namespace Py
open PySem L2
open He (Fa DefD Tab FnW)
/-! ### facts -/
def fnWx (K : Frag) (p : Str × Option Str) : FnW := match K.lookup (He.fAd K p) with
  | some ⟨_, _, .func fd, _⟩ => some (fd.name, fd.qualname, fd.params, fd.body, fd.scope, fd.globals, [], fd.builtins)
  | _ => none
/-- the class's own __init__ closes over the class, its code stands in the file -/
def cloB (file : Str) (c : String) (q : Str) (K : Frag) : Bool := match K.lookup (He.ma K (ca K c) "__init__") with
  | some ⟨_, _, .func fd, _⟩ => (match fd.code, fd.closure with
    | .ref cda, [(y, cc)] => decide (y = ("__class__" : Str)) && (decide (fd.defaults = .none) && (PySem.W.codeIn K (.ref cda) q &&
      ((match K.lookup cc with | some ⟨_, _, .cell (some (.ref D)), _⟩ => decide (D = ca K c) | _ => false) &&
        (match K.lookup cda with | some ⟨_, _, .fields vs, _⟩ => (match (vs[2]? : Option Value) with | some (.str z _) => decide (z = file) | _ => false) | _ => false))))
    | _, _ => false)
  | _ => false
def oexB (c : String) (K : Frag) : Bool := match K.lookup (ca K c) with
  | some ⟨.type "type", _, .cls cd, sl⟩ => (match cd.mro, sl.toList with
    | .ref C' :: bm, [_, _, _, _, some (.builtin n), _] => decide (C' = ca K c) && (decide (n = "ValueError.__new__") && (cd.hasDict && (!cd.hasDel && PySem.HandSPX.refsVE bm)))
    | _, _ => false)
  | _ => false
theorem oexB_ok {c : String} {K : Frag} (h : oexB c K = true) : ∃ nm q N bs bm sn sub ab col dd k0 k1 k2 k3 k5, K.lookup (ca K c) = some (excClassObj nm q (ca K c) N bs bm true sn sub ab col dd k0 k1 k2 k3 k5 "ValueError.__new__") ∧ PySem.HandSPX.refsVE bm = true := by
  unfold oexB at h
  split at h
  · rename_i dd cd sl ho
    split at h
    · rename_i C' bm k0 k1 k2 k3 n k5 hm hs
      simp only [Bool.and_eq_true, decide_eq_true_eq, Bool.not_eq_true'] at h
      obtain ⟨h1, h2, h3, h4, h5⟩ := h
      obtain ⟨nm, bs, mro, ns, qn, hd, sn, sub, ab, col, del⟩ := cd
      dsimp only at hm h3 h4
      subst hm h3 h4 h1 h2
      have hsl : sl = #[k0, k1, k2, k3, some (.builtin "ValueError.__new__"), k5] := by
        obtain ⟨l⟩ := sl
        simp only at hs
        rw [hs]
      subst hsl
      exact ⟨nm, qn, ns, bs, bm, sn, sub, ab, col, dd, k0, k1, k2, k3, k5, ho, h5⟩
    · cases h
  · cases h
/-- all that is asked of the class c -/
def errB (file : Str) (c : String) (q : Str) (fs : List String) (K : Frag) : Bool := cloB file c q K && (oexB c K &&
  (decide (PySem.W.findIn K (.ref (ca K c)) "__setattr__" = some (some (.builtin "object.__setattr__"))) && (decide (PySem.W.subIn K (.ref (ca K c)) (.type "BaseException") = some true) &&
  (decide (PySem.W.typeIn K (.ref (ca K c)) = some (.type "type")) && (PySem.W.keepIn K (.ref (ca K c)) &&
  (decide (PySem.W.ks_superIn K (ca K c) (ca K c) "__init__" = some (some (.builtin "ValueError.__init__"))) && (decide (PySem.W.subIn K (.ref (ca K c)) (.type "ValueError") = some true) &&
  (decide (PySem.W.mroIn K (ca K c) (.ref (ca K c)) = some true) && (decide (PySem.W.nsIn K cStatics "thirdparty.any" = some none) &&
  (decide (PySem.W.findIn K (.ref (ca K c)) "__init__" = some (some (.ref (He.ma K (ca K c) "__init__")))) && (decide (PySem.W.typeIn K (.ref (He.ma K (ca K c) "__init__")) = some (.type "function")) &&
  fs.all fun f => decide (PySem.W.findIn K (.ref (ca K c)) (Str.ofString f) = some none))))))))))))
structure ErrF (P : Program) (K : Frag) (c : String) (nm qual : Str) (params : Arguments) (body : List Stmt) (scope : Scope) (fs : List String) : Prop where
  xin : ∃ cc cda fd, XIn P K (ca K c) (He.ma K (ca K c) "__init__") cc cda nm qual params body scope fd ∧ ∃ kV doc pm an ct, fd = PySem.W.ksFn nm qual params body scope .none kV doc pm an (.ref cda) ct cc
  ini : PySem.W.findIn K (.ref (ca K c)) "__init__" = some (some (.ref (He.ma K (ca K c) "__init__")))
  typ : PySem.W.typeIn K (.ref (He.ma K (ca K c) "__init__")) = some (.type "function")
  no : ∀ f ∈ fs, PySem.W.findIn K (.ref (ca K c)) (Str.ofString f) = some none
theorem err_f {P : Program} {K : Frag} {c : String} {d : DefD} {file : Str} {fs : List String} (hat : d.at_ = (Str.ofString c, some ("__init__" : Str))) (hf : ((P.main.file : Str) == file) = true) (e : fnWx K d.at_ = d.val) (h : errB file c d.qual fs K = true) : ErrF P K c d.name d.qual d.params d.body d.scope fs := by
  unfold errB at h
  simp only [Bool.and_eq_true, decide_eq_true_eq, List.all_eq_true] at h
  obtain ⟨hc, ho, h1, h2, h3, h4, h5, h6, h7, h8, h9, h10, h11⟩ := h
  have hfa : He.fAd K d.at_ = He.ma K (ca K c) "__init__" := by rw [hat] <;> rfl
  unfold cloB at hc
  unfold fnWx at e
  rw [hfa] at e
  cases q : K.lookup (He.ma K (ca K c) "__init__") with
  | none =>
    rw [q] at hc
    cases hc
  | some o =>
    obtain ⟨oc, od, dt, osl⟩ := o
    rw [q] at hc e
    cases dt with
    | func fd =>
      obtain ⟨n1, n2, n3, n4, n5, n6, n7, n8, n9, n10, n11, n12, n13, n14, n15⟩ := fd
      have e2 : (some (n1, n2, n3, n4, n5, n6, [], n15) : FnW) = some (d.name, d.qual, d.params, .stmts d.body, d.scope, mainGlobals, [], builtinsNs) := e
      simp only [Option.some.injEq, Prod.mk.injEq, true_and] at e2
      obtain ⟨g1, g2, g3, g4, g5, g6, g8⟩ := e2
      subst g1 g2 g3 g4 g5 g6 g8
      dsimp only at hc
      split at hc
      · rename_i cda y cc
        simp only [Bool.and_eq_true, decide_eq_true_eq] at hc
        obtain ⟨c1, c2, c3, c4, c5⟩ := hc
        subst c1 c2
        split at c4
        · rename_i cl cld D csl hcell
          have hD : D = ca K c := of_decide_eq_true c4
          subst hD
          split at c5
          · rename_i ccl cdd vs ccs hcode
            split at c5
            · rename_i z tf hz
              have hz2 : z = file := of_decide_eq_true c5
              subst hz2
              exact ⟨⟨cc, cda, _, ⟨⟨oc, od, _, n9, n10, n11, n12, n14, osl, rfl, q⟩, c3, ⟨ccl, cdd, vs, ccs, z, tf, hcode, hz, hf⟩, ⟨cl, cld, csl, hcell⟩, ⟨oexB_ok ho, h1, h2, h3, h4⟩, h5, h6, h7, h8⟩, n9, n10, n11, n12, n14, rfl⟩, h9, h10, h11⟩
            · cases c5
          · cases c5
        · cases c4
      · cases hc
    | _ => cases hc
/-- the name c makes an error that keeps what it is given under the names ns -/
structure ErrOk (P : Program) (w : World) (K : Frag) (mg : Str → Option Value) (base : Heap) (k : Nat) (c : String) (ns : List String) : Prop where
  ex : ∃ f fd ps, mg (Str.ofString c) = some (.ref (ca K c)) ∧ OexC K (ca K c) ∧ PySem.W.findIn K (.ref (ca K c)) "__init__" = some (some (.ref f)) ∧ PySem.W.typeIn K (.ref f) = some (.type "function") ∧ Binds K fd ps [] ∧
    FnOk P w K mg base (L2N.CX P w) k f fd ps (spX (ca K c) ns.length (ns.map Str.ofString))
/-! ### its fields, laid one behind another -/
section
variable {K : Frag} {f g : Str} {C : Addr}
theorem fld_one (T : OexC K C) (hno : PySem.W.findIn K (.ref C) f = some none) {a : Addr} {ws : List V} {H1 : Hp} {D : Ends} {σ : L2.St} (h0 : σ[0]? = some (some (.ref a))) (h1 : ∀ i v, ws[i]? = some v → σ[i + 1]? = some (some v)) (hl : ws.length = 1) (hn : H1 a = none)
    (q : ∀ d H2 σ', H2 a = some (exo a C (some d)) → H2 d = some (exd d (([f] : List Str).zip ws).reverse) → H1 d = none → d ≠ a → (∀ b, b ≠ a → b ≠ d → H2 b = H1 b) → D.nx σ' H2) : tOst K f (tVar 0) (tVar 1) D σ (upd H1 a (exo a C none)) := by
  match ws, hl with
  | [v], _ =>
    refine ⟨v, h1 0 v rfl, _, h0, a, C, rfl, T, hno, .inl ⟨upd_same, fun dx hdx hne => q dx _ σ upd_same ?_ ?_ hne fun b hb hd => ?_⟩⟩
    · rw [upd_ne hne, upd_same]
      rfl
    · rw [upd_ne hne] at hdx
      exact hdx
    · rw [upd_ne hb, upd_ne hd, upd_ne hb]
theorem fld_two (T : OexC K C) (hno : PySem.W.findIn K (.ref C) f = some none) (hno2 : PySem.W.findIn K (.ref C) g = some none) {a : Addr} {ws : List V} {H1 : Hp} {D : Ends} {σ : L2.St} (h0 : σ[0]? = some (some (.ref a))) (h1 : ∀ i v, ws[i]? = some v → σ[i + 1]? = some (some v)) (hl : ws.length = 2) (hn : H1 a = none)
    (q : ∀ d H2 σ', H2 a = some (exo a C (some d)) → H2 d = some (exd d (([f, g] : List Str).zip ws).reverse) → H1 d = none → d ≠ a → (∀ b, b ≠ a → b ≠ d → H2 b = H1 b) → D.nx σ' H2) : tSeq (tOst K f (tVar 0) (tVar 1)) (tOst K g (tVar 0) (tVar 2)) D σ (upd H1 a (exo a C none)) := by
  match ws, hl with
  | [v, w], _ =>
    refine ⟨v, h1 0 v rfl, _, h0, a, C, rfl, T, hno, .inl ⟨upd_same, fun dx hdx hne => ?_⟩⟩
    have hdx2 : H1 dx = none := by
      rw [upd_ne hne] at hdx
      exact hdx
    refine ⟨w, h1 1 w rfl, _, h0, a, C, rfl, T, hno2, .inr ⟨dx, [(f, v)], upd_same, ?_, by simp, q dx _ σ ?_ ?_ hdx2 hne fun b hb hd => ?_⟩⟩
    · rw [upd_ne hne, upd_same]
    · rw [upd_ne hne.symm, upd_same]
    · rw [upd_same]
      rfl
    · rw [upd_ne hd, upd_ne hb, upd_ne hd, upd_ne hb]
end
theorem ErrF.T {P : Program} {K : Frag} {c : String} {nm qual : Str} {params : Arguments} {body : List Stmt} {scope : Scope} {fs : List String} (F : ErrF P K c nm qual params body scope fs) : OexC K (ca K c) := by
  obtain ⟨⟨cc, cda, fd, XI, _⟩, _⟩ := F
  exact XI.T
/-! ### raise -/
theorem RepF.append {K : Frag} {A : AS} {H : Hp} : ∀ {fs gs : List (String × D)} {us vs : List (Str × V)}, RepF K A H fs us → RepF K A H gs vs → RepF K A H (fs ++ gs) (us ++ vs)
  | [], gs, us, vs, h, k => by
    simp only [RepF] at h
    subst h
    exact k
  | (n, d) :: fs, gs, us, vs, h, k => by
    simp only [RepF] at h
    obtain ⟨v, r, rfl, h1, h2⟩ := h
    simp only [List.cons_append, RepF]
    exact ⟨v, r ++ vs, rfl, h1, RepF.append h2 k⟩
theorem repF_zip {K : Frag} {A : AS} {H : Hp} : ∀ {ns : List String} {ds : List D} {vs : List V}, RepL K A H ds vs → RepF K A H (ns.zip ds).reverse ((ns.map Str.ofString).zip vs).reverse
  | [], ds, vs, h => by simp [RepF]
  | n :: ns, [], vs, h => by
    simp only [RepL] at h
    subst h
    simp [RepF]
  | n :: ns, d :: ds, vs, h => by
    simp only [RepL] at h
    obtain ⟨v, r, rfl, h1, h2⟩ := h
    simp only [List.zip_cons_cons, List.map_cons, List.reverse_cons]
    refine RepF.append (repF_zip h2) ?_
    simp only [RepF]
    exact ⟨v, [], rfl, h1, rfl⟩
section
variable {fr : Bool} {X : Cx} {W : WX} {ow oN oB : Ow} {e : Expr} {es : List Expr} {am : AM} {pos p rpos : Pos} {k j : Nat} {c : String} {ns : List String}
theorem s_raise (T : Ctx X W j) (C : ErrOk X.prog X.w X.K X.mg X.base k c ns) (hk : k + 1 ≤ j) (hg : Gl X (Str.ofString c)) (ha : PA X (e :: es) (aE X.K W ow am)) (hz : ns.length ≤ 1000 := by decide)
    (hdb : (Str.ofString c == ("__debug__" : Str)) = false := by decide) (he : starEach (e :: es) X.env = (false, eval e X.env) :: starEach es X.env := by rfl) (hpl : (backTo pos (starEach es X.env)).any (·.1) = false := by rfl) :
    PS X (.Raise (some (.Call (.Name (Str.ofString c) p) (e :: es) [] pos)) none rpos) (tS3 fr X.K W ow oN oB (rais c ns am)) := by
  obtain ⟨f, fd, ps, hm, TO, hi, ht, hb, F⟩ := C.ex
  refine PS.of (L2N.ps_raise T.calm T.tk (pmkN TO hi ht F (T.hr.mono hk) hb passLN hg hm ha hdb he hpl)) fun D σ H ⟨A, H0, O, en, R, q⟩ => ?_
  refine ⟨A, H0, O, en, R, ((Out.bind (show Out (am en >>= fun ds => if ds.length = ns.length then (Res.exc c (ns.zip ds).reverse : Res Fl) else .stuck) _ _ from q)).se R).good fun ds q1 vs H1 s1 r1 => ?_⟩
  have r2 := paired_rep r1
  by_cases hl : ds.length = ns.length
  · rw [if_pos hl] at q1
    refine ⟨by rw [← r2.length, hl]; exact hz, fun a hn => ⟨a, H1, vs ++ [], by simp, rfl, hn, by simp [← r2.length, hl], fun d H2 k1 k2 k3 k4 k5 => ⟨rfl, d, _, k1, k2, k3, ?_⟩⟩⟩
    have sm : Same H1 (upd (del H2 a) d (.xd ((ns.map Str.ofString).zip (vs ++ [])).reverse)) := fun b o eb => by
      have hba : b ≠ a := ne_of_none eb hn
      have hbd : b ≠ d := ne_of_none eb k3
      rw [upd_ne hbd, del_ne hba, k5 b hba hbd]
      exact eb
    refine (show badS X.K W A H0 c (ns.zip ds).reverse from q1) σ d _ _ (R.same.trans (s1.trans sm)) upd_same ?_
    have r3 : RepL X.K A (upd (del H2 a) d (.xd ((ns.map Str.ofString).zip (vs ++ [])).reverse)) ds (vs ++ []) := by
      have r4 : RepL X.K A _ ds vs := RepL.move (Mv.less (A := AO A O) (A' := A) fun b hb => Or.inl hb) ds vs (RepL.move (Mv.same sm) ds vs r2)
      simpa using r4
    exact repF_zip r3
  · rw [if_neg hl] at q1
    exact q1.elim
end
end Py

/-! Within an except suite, and within what is called there. -/
namespace Py
open PySem L2 L2H
structure CtxH (X : Cx) (W : WX) (k : Nat) : Prop where
  tk : L2N.Takes X W
  po : PassesOwn (model X.prog X.w) X.A X.env X.xe
  hr : RoomH k X.A
  hot : HotC X
  nd : X.N.Nodup
theorem CtxH.eq {X : Cx} {W : WX} {k : Nat} (T : CtxH X W k) : OpR X (compareOp .Eq) (r2 X.K oeq) := y_eq (by have := T.hr.un; omega)
theorem CtxH.ne {X : Cx} {W : WX} {k : Nat} (T : CtxH X W k) : OpR X (compareOp .NotEq) (r2 X.K one) := y_ne (by have := T.hr.un; omega)
/-! ### loops over a range -/
section
variable {fr : Bool} {X : Cx} {W : WX} {ow oN oB : Ow} {a : Expr} {ma : EM} {pos p : Pos} {u : SM} {body : List Stmt}
theorem pih_of {tg iter : Expr} {t t' : TI} (h : PIH X tg iter t) (k : ∀ σ H R, t' σ H R → t σ H R) : PIH X tg iter t' := ⟨fun pins s σ H R I q => h.run pins s σ H R I (k σ H R q)⟩
theorem i_rng1H {tg : Expr} (hg : Gl X "range") (hm : X.mg "range" = none) (ha : PE X a (tE X.K W ow ma)) (hs : starEach [a] X.env = [(false, eval a X.env)] := by rfl) : PIH X tg (.Call (.Name "range" p) [a] [] pos) (tI Mv X.K W ow (irng1 ma)) :=
  pih_of (pi_range1H hg hm (pa_cons ha pa_nil hs) hs) fun σ H R' h => rng1_of h
theorem s_forH {tg iter : Expr} {it : IM} {ts : List Nat} {g : GM} (hp : PassesOwn (model X.prog X.w) X.A X.env X.xe) (hc : HotC X) (hi : PIH X tg iter (tI Mv X.K W ow it)) (hg : PG X tg (tGt X.K ow ts g)) (hb : PSs X body (tS fr X.K W ow u))
    (hs : ∀ x, foldedSetIterable iter X.env x = pure x := by intro _; rfl) : PS X (.For tg iter body [] pos) (tS fr X.K W ow (for_ it g u)) :=
  PS.of (ps_forH hp hc hi hg hb hs) fun D σ H h => for_of h
end
/-! ### calls -/
def CallH (P : Program) (w : World) (K : Frag) (mg : Str → Option Value) (base : Heap) (k : Nat) (x : Str) (d : He.DefD) (ps : List Str) (n : Nat) (fm : List D → Res D) : Prop := ∃ f fd, mg x = some (.ref f) ∧ PySem.W.keepIn K (.ref f) = true ∧ Binds K fd ps [] ∧ FnH P w K mg base (L2N.CX P w) k f fd ps (spM K n fm) ∧ Ar n fm
theorem FnH.mono {P : Program} {w : World} {K : Frag} {mg : Str → Option Value} {base : Heap} {CX : CXT} {j k : Nat} {f : Addr} {fd : FuncData} {ps : List Str} {sp : Sp} (F : FnH P w K mg base CX j f fd ps sp) (h : j ≤ k) : FnH P w K mg base CX k f fd ps sp :=
  ⟨F.len, fun A outer s H args us vs Q E p hr => F.run A outer s H args us vs Q E p (hr.mono h)⟩
section
variable {X : Cx} {W : WX} {ow : Ow} {e : Expr} {es : List Expr} {am : AM} {pos p : Pos} {k j n : Nat} {x : Str} {fm : List D → Res D} {d : He.DefD} {ps : List Str}
theorem x_own1H (T : CtxH X W j) (C : CallH X.prog X.w X.K X.mg X.base k x d ps n fm) (hk : k ≤ j) (hg : Gl X x) (ha : PA X (e :: es) (aE X.K W ow am)) (hdb : (x == ("__debug__" : Str)) = false := by decide)
    (he : starEach (e :: es) X.env = (false, eval e X.env) :: starEach es X.env := by rfl) (hpl : (backTo pos (starEach es X.env)).any (·.1) = false := by rfl) : PE X (.Call (.Name x p) (e :: es) [] pos) (tE X.K W ow (call fm am)) := by
  obtain ⟨f, fd, h1, h2, h3, h4, h5⟩ := C
  refine PE.of (pe_callH (E := WE W) h4 (T.hr.mono hk) T.hot hg h1 h2 h3 (fun σ => L2N.passAt T.tk σ) ha hdb he hpl) fun σ H Q h => ?_
  obtain ⟨A, H0, O, en, R, q⟩ := call_of (n := n) (E := WE W) (fun _ _ _ _ z => z) h h5.ok h5.ex
  exact ⟨A, H0, O, en, R, q.good fun ds k vs H1 s1 r1 => by
    have z : spM X.K n fm (vs ++ []) H1 Q (WE W σ) := k vs H1 s1 r1
    rw [List.append_nil] at z
    exact z⟩
end
section
variable {P : Program} {w : World} {K : Frag} {mg : Str → Option Value} {base : Heap} {k : Nat} {ow oN oB : Ow} {m : SM} {f : Addr} {N ps : List Str} {p n : Nat}
theorem def_okH {d : He.DefD} (F : ∃ fd, FunD K d.name d.qual d.params d.body d.scope [] [] f fd) (g : mg d.name = some (.ref f)) (S : FnScope N ps d.scope) (hpl : ps.length = p) (hnl : N.length = n) (hp : ∀ i, i < p → ow i = false)
    (hbind : ∀ (kV doc pm : Value) (an : Option Addr) (cdv ct : Value) (us : List Value), us.length = ps.length → bindArgs (PySem.W.fnOf d.name d.qual d.params d.body d.scope .none kV doc pm an cdv ct) ⟨us, []⟩ = pure (ps.zip us))
    (hb : ∀ (cdv : Value) (A : Around) (outer : List PySem.Env) (s : Shared) (H : Hp) (E : XK) (q : Addr × Obj), CtxH (cxH (L2N.CX P w) P w K mg base N d.qual d.scope f cdv A outer s H E q) (WD E) k →
      PSs (cxH (L2N.CX P w) P w K mg base N d.qual d.scope f cdv A outer s H E q) d.body (tS3 false K (WD E) ow oN oB m)) (hx : ow.x = none := by rfl) : CallH P w K mg base (k + 1) d.name d ps p (fn p n m) := by
  obtain ⟨fd, F⟩ := F
  subst hpl hnl
  refine ⟨f, fd, g, F.kp, FunD.bindsN F hbind, ?_, ar_fn⟩
  obtain ⟨oc, od, dV, kV, doc, pm, an, cdv, ct, osl, rfl, lk, hcd, _, _⟩ := F.ex
  refine fn_ofH lk hcd S (fun vs H Q E ⟨A, ds, r, h, _⟩ => r.length.symm.trans h) fun A outer s H vs Q E q hot hr h => ?_
  exact ⟨tS3 false K (WD E) ow oN oB m, hb cdv A outer s H E q ⟨L2N.takes_of rfl rfl rfl rfl, passes_of rfl, hr, ⟨q, ⟨hot.1, hot.2⟩, List.mem_singleton.mpr rfl⟩, S.nd⟩, spM_start (pre_le S.pre) hx hp h⟩
end
end Py

/-! try .. except X as e, and what is asked of e. -/
namespace Py
open PySem L2 L2H
/-! ### facts -/
def xcV (K : Frag) (t : String) : V := if t = "ValueError" then .ty "ValueError" else .ref (ca K t)
def xcU (K : Frag) (t : String) : Value := if t = "ValueError" then .type "ValueError" else .ref (ca K t)
theorem xc_cls (K : Frag) (t : String) : ClsV (xcV K t) (xcU K t) := by
  unfold xcV xcU
  split
  · exact .ty _
  · exact .own _
def ersB (es all fl : List String) (K : Frag) : Bool := es.all fun c =>
  (PySem.W.clsIn K (ca K c)).isSome && (decide (PySem.W.findIn K (.ref (ca K c)) "__getattribute__" = some (some (.builtin "BaseException.__getattribute__"))) && (decide (PySem.W.findIn K (.ref (ca K c)) "__getattr__" = some none) &&
  (decide (PySem.W.subIn K (.ref (ca K c)) (.type "BaseException") = some true) && (decide (PySem.W.findIn K (.ref (ca K c)) "__class__" = some (some (.builtin "object.__class__"))) &&
  (decide (PySem.W.specialIn K (.builtin "object.__class__") "__get__" = some (some (.builtin "getset_descriptor.__get__"))) && (decide (PySem.W.takesIn K (.builtin "object.__class__") = some true) && (decide (PySem.W.mroIn K (ca K c) (.type "object") = some true) &&
  (PySem.W.hasDictIn K (ca K c) && (decide (PySem.W.exmOne K (.ref (ca K c)) (.ref (ca K "CarryError")) = some true) &&
  ((all.all fun t => decide (PySem.W.kitOne K (.ref (ca K c)) (xcU K t) = some (xisa c [t]))) && fl.all fun f => decide (PySem.W.findIn K (.ref (ca K c)) (Str.ofString f) = some none)))))))))))
structure ErC (K : Frag) (all fl : List String) (c : String) : Prop where
  cl : (PySem.W.clsIn K (ca K c)).isSome = true
  ga : PySem.W.findIn K (.ref (ca K c)) "__getattribute__" = some (some (.builtin "BaseException.__getattribute__"))
  gg : PySem.W.findIn K (.ref (ca K c)) "__getattr__" = some none
  be : PySem.W.subIn K (.ref (ca K c)) (.type "BaseException") = some true
  cc : PySem.W.findIn K (.ref (ca K c)) "__class__" = some (some (.builtin "object.__class__"))
  cg : PySem.W.specialIn K (.builtin "object.__class__") "__get__" = some (some (.builtin "getset_descriptor.__get__"))
  ct : PySem.W.takesIn K (.builtin "object.__class__") = some true
  ob : PySem.W.mroIn K (ca K c) (.type "object") = some true
  hd : PySem.W.hasDictIn K (ca K c) = true
  ex : PySem.W.exmOne K (.ref (ca K c)) (.ref (ca K "CarryError")) = some true
  kt : ∀ t ∈ all, PySem.W.kitOne K (.ref (ca K c)) (xcU K t) = some (xisa c [t])
  fl : ∀ f ∈ fl, PySem.W.findIn K (.ref (ca K c)) (Str.ofString f) = some none
def ErsOk (K : Frag) (es all fl : List String) : Prop := ∀ c ∈ es, ErC K all fl c
theorem ers_ok {K : Frag} {es all fl : List String} (h : ersB es all fl K = true) : ErsOk K es all fl := fun c hc => by
  have h1 := List.all_eq_true.mp h c hc
  simp only [Bool.and_eq_true, decide_eq_true_eq, List.all_eq_true] at h1
  obtain ⟨a1, a2, a3, a4, a5, a6, a7, a8, a9, b1, b2, b3⟩ := h1
  exact ⟨a1, a2, a3, a4, a5, a6, a7, a8, a9, b1, b2, b3⟩
theorem xisa_cons (c t : String) (ts : List String) : xisa c (t :: ts) = (xisa c [t] || xisa c ts) := by
  unfold xisa
  simp
theorem kit_anyE {K : Frag} {all fl : List String} {c : String} (E : ErC K all fl c) : ∀ {ts : List String}, (∀ t ∈ ts, t ∈ all) → PySem.W.kitAny K (.ref (ca K c)) (ts.map (xcU K)) = some (xisa c ts)
  | [], _ => rfl
  | t :: ts, h => by
    rw [xisa_cons]
    refine L2.kitAny_cons (E.kt t (h t List.mem_cons_self)) (fun e => ?_) (fun e => by rw [e]; rfl)
    rw [e, Bool.false_or]
    exact kit_anyE E fun u hu => h u (List.mem_cons_of_mem _ hu)
/-! ### the body: an error leaves the names as they are -/
def tB (fr : Bool) (K : Frag) (W : WX) (ow oN oB : Ow) (m : SM) : TS := fun D σ H => ∃ A H0 O e, ER K A H0 ow O σ H e ∧ Out (m e) (EndOk3 fr K A H0 oN oB O H D) (badE K W A O σ H)
section
variable {fr : Bool} {X : Cx} {W : WX} {ow oN oB : Ow} {a e : Expr} {es' : List Expr} {m : EM} {st : Stmt} {rest body orelse : List Stmt} {u v : SM} {t : TM} {pos p : Pos} {j : Nat}
theorem b_drop (h : PS X st (tDrop (tE X.K W ow m))) : PS X st (tB fr X.K W ow ow oB (drop m)) :=
  PS.of h fun D σ H ⟨A, H0, O, en, R, q⟩ => ⟨A, H0, O, en, R, (Out.bind q).good fun d q1 v H1 s1 r1 => q1 O σ H1 (R.to s1) (Mv.same s1)⟩
theorem b_set {i : Nat} (h : PS X st (tAsg (tE X.K W ow m) (gName i))) (hi : ow i = false) : PS X st (tB fr X.K W ow ow oB (asg (gnm i) m)) :=
  PS.of h fun D σ H ⟨A, H0, O, en, R, q⟩ => ⟨A, H0, O, en, R, (Out.bind q).good fun d q1 v H1 s1 r1 => q1 O _ H1 ((R.to s1).set hi r1) (Mv.same s1)⟩
theorem b_ret (h : PE X a (tE X.K W ow m)) (hn : ∀ i, ow i = false) : PS X (.Return (some a) pos) (tB false X.K W ow oN oB (ret m)) :=
  PS.of (ps_ret h) fun D σ H ⟨A, H0, O, en, R, q⟩ => ⟨A, H0, O, en, R, (Out.bind q).good fun d q1 v H1 s1 r1 => q1 v H1 (R.same.trans s1) (Rep.move (Mv.less fun b => .inl) _ _ r1)⟩
theorem b_if (hc : PT X a (tT X.K W ow t)) (hb : PSs X body (tB fr X.K W ow oN oB u)) (ho : PSs X orelse (tB fr X.K W ow oN oB v)) : PS X (.If a body orelse pos) (tB fr X.K W ow oN oB (ite t u v)) :=
  PS.of (ps_if hc hb ho) fun D σ H ⟨A, H0, O, en, R, q⟩ => ⟨A, H0, O, en, R, (Out.bind q).good fun k q1 H1 s1 => by
    cases k with
    | true =>
      rw [if_pos rfl] at q1 ⊢
      exact ⟨A, H0, O, en, R.to s1, (q1.to s1).good fun f q2 => q2.to (Mv.same s1)⟩
    | false =>
      rw [if_neg (by decide)] at q1 ⊢
      exact ⟨A, H0, O, en, R.to s1, (q1.to s1).good fun f q2 => q2.to (Mv.same s1)⟩⟩
theorem bs_nil : PSs X [] (tB fr X.K W ow ow oB skip) := PSs.of pss_nil fun D σ H ⟨A, H0, O, en, R, q⟩ => q O σ H R Mv.refl
theorem bs_one (h : PS X st (tB fr X.K W ow oN oB u)) : PSs X [st] (tB fr X.K W ow oN oB u) := pss_one h
end
/-! ### try -/
theorem Ctx.tr {X : Cx} {W W' : WX} {k : Nat} (c : Ctx X W k) {pn : List (Addr × Obj)} {xe : Value → Shared → Prop} (tk : L2N.Takes (X.tr pn xe) W') (po : PassesOwn (model X.prog X.w) X.A X.env xe) : Ctx (X.tr pn xe) W' k := ⟨c.calm, tk, po, c.hr, c.nd⟩
section
variable {fr : Bool} {X : Cx} {W : WX} {ow oN oB : Ow} {body suite : List Stmt} {b₀ : Stmt} {u : SM} {h : String → List (String × D) → SM} {np pos pos' : Pos} {j i : Nat} {es all fl : List String} {x n : Str}
theorem ER.catch {K : Frag} {A : AS} {H0 : Base} {O : OW} {σ : L2.St} {H : Hp} {e : Env} (R : ER K A H0 ow O σ H e) (ho : ow.x = none) (hi : i < σ.length) {a da : Addr} {fs : List (String × D)} {fvs : List (Str × V)} (hd : H da = some (.xd fvs)) (r : RepF K (AO A O) H fs fvs) (hw : ow i = false) :
    ER K A H0 (ow.hold i a da fs) O (σ.set i (some (.ref a))) H (e.set i none) := by
  have other : ∀ k d, (e.set i none)[k]? = some (some d) → i ≠ k ∧ e[k]? = some (some d) := fun k d q => by
    by_cases hk : i = k
    · subst hk
      have hl : i < e.length := by rw [← R.len]; exact hi
      rw [List.getElem?_set_self hl] at q
      cases q
    · rw [List.getElem?_set_ne hk] at q
      exact ⟨hk, q⟩
  have off : ∀ k, i ≠ k → (ow.hold i a da fs) k = ow k := fun k hk => by
    show (k == i || ow k) = ow k
    rw [show (k == i) = false by simpa using fun z => hk z.symm, Bool.false_or]
  refine ⟨by simp [R.len], R.a0, R.same, fun k d h1 h2 => ?_, fun k d h1 h2 => ?_, R.fresh, R.inj, R.pin, fun q hq => ?_⟩
  · obtain ⟨hk, h3⟩ := other k d h1
    rw [off k hk] at h2
    rw [List.getElem?_set_ne hk]
    exact R.vals k d h3 h2
  · obtain ⟨hk, h3⟩ := other k d h1
    rw [off k hk] at h2
    rw [List.getElem?_set_ne hk]
    exact R.owns k d h3 h2
  · have hq2 : some (⟨i, a, da, fs⟩ : Xh) = some q := hq
    cases hq2
    refine ⟨by show (i == i || ow i) = true; simp, List.getElem?_set_self hi, fun d z => (other i d z).1 rfl, fvs, hd, r⟩
/-- behind the suite the name is gone -/
theorem ER.uncatch {K : Frag} {A : AS} {H0 : Base} {O : OW} {σ : L2.St} {H : Hp} {e : Env} {a da : Addr} {fs : List (String × D)} (R : ER K A H0 (oN.hold i a da fs) O σ H e) (ho : oN.x = none) : ER K A H0 oN O (σ.set i none) H (e.set i none) := by
  have hown := R.exq ⟨i, a, da, fs⟩ rfl
  have other : ∀ k d, (e.set i none)[k]? = some (some d) → i ≠ k ∧ e[k]? = some (some d) := fun k d q => by
    by_cases hk : i = k
    · subst hk
      by_cases hl : i < e.length
      · rw [List.getElem?_set_self hl] at q
        cases q
      · rw [List.getElem?_eq_none (by simp; omega)] at q
        cases q
    · rw [List.getElem?_set_ne hk] at q
      exact ⟨hk, q⟩
  have off : ∀ k, i ≠ k → (oN.hold i a da fs) k = oN k := fun k hk => by
    show (k == i || oN k) = oN k
    rw [show (k == i) = false by simpa using fun z => hk z.symm, Bool.false_or]
  refine ⟨by simp [R.len], R.a0, R.same, fun k d h1 h2 => ?_, fun k d h1 h2 => ?_, R.fresh, R.inj, R.pin, XFact.none ho⟩
  · obtain ⟨hk, h3⟩ := other k d h1
    rw [List.getElem?_set_ne hk]
    exact R.vals k d h3 ((off k hk).trans h2)
  · obtain ⟨hk, h3⟩ := other k d h1
    rw [List.getElem?_set_ne hk]
    exact R.owns k d h3 ((off k hk).trans h2)
theorem s_try (T : Ctx X W j) (E : ErsOk X.K es all fl) (hbe : X.mg "CarryError" = some (.ref (ca X.K "CarryError"))) (hg : Gl X "CarryError") (hi : X.N[i]? = some n) (hw : ow i = false) (ho : ow.x = none) (hoN : oN.x = none)
    (hb : ∀ (W' : WX) (pn : List (Addr × Obj)) (xe : Value → Shared → Prop), Ctx (X.tr pn xe) W' j → PSs (X.tr pn xe) body (tB fr X.K W' ow oN oB u))
    (hsu : ∀ (a : Addr) (oe : Obj) (c : String) (da : Addr) (fs : List (String × D)) (pn : List (Addr × Obj)), c ∈ es → Zc (.ref (ca X.K c)) (some da) oe → (∃ vs, oe.data = .fields vs) → CtxH (X.suite a ((a, oe) :: pn)) W0 j →
      PSs (X.suite a ((a, oe) :: pn)) (b₀ :: suite) (tS3 fr X.K W0 (ow.hold i a da fs) (oN.hold i a da fs) (oB.hold i a da fs) (h c fs)))
    (hs : X.stack = X.env :: X.outer := by rfl) (hf : X.env.frame = some X.env.locals := by rfl) (hln : X.env.kindOf n = some .local := by rfl) :
    PS X (.Try body [.ExceptHandler (some (.Name "CarryError" np)) (some n) (b₀ :: suite) pos'] [] [] pos) (tS3 fr X.K W ow oN oB (tryE es i u h)) := by
  refine PS.of (L2N.ps_try_as (c := .ref (ca X.K "CarryError")) (i := i) (ts := fun a cls d Dn σ H => ∃ (c : String) (da : Addr) (fs : List (String × D)), c ∈ es ∧ cls = .ref (ca X.K c) ∧ d = some da ∧ tS3 fr X.K W0 (ow.hold i a da fs) (oN.hold i a da fs) (oB.hold i a da fs) (h c fs) Dn σ H) (tb := fun W' => tB fr X.K W' ow oN oB u)
    hs hf T.nd hi hln ⟨hg, by decide, .inl hbe⟩ T.tk (fun W' pn xe tk po => hb W' pn xe (T.tr tk po)) fun a oe cls d pn hz hv => ⟨fun pins s σ H D I q => ?_⟩) fun D σ H ⟨A, H0, O, en, R, q⟩ => ?_
  · obtain ⟨c, da, fs, hc, rfl, rfl, q⟩ := q
    obtain ⟨vs, hvs⟩ := hv
    exact (hsu a oe c da fs pn hc hz.zc ⟨vs, hvs⟩ ⟨takes0N, PassesOwn.never, ⟨T.hr.dp, T.hr.un⟩, ⟨(a, oe), ⟨rfl, vs, hvs, hz.2.2 vs hvs⟩, List.mem_cons_self⟩, T.nd⟩).run pins s σ H D I q
  · refine ⟨A, H0, O, en, R, ?_⟩
    have q' : Out (tryE es i u h en) (EndOk3 fr X.K A H0 oN oB O H D) (badS X.K W A H0) := q
    unfold tryE at q'
    cases hu : u en with
    | ok f =>
      rw [hu] at q'
      exact q'
    | stuck =>
      rw [hu] at q'
      exact q'.elim
    | exc c fs =>
      rw [hu] at q'
      dsimp only at q'
      split at q'
      · rename_i hc0
        rw [Bool.and_eq_true, decide_eq_true_eq] at hc0
        have hc : c ∈ es := by simpa using hc0.1
        have hlt : i < σ.length := by rw [R.len]; exact hc0.2
        intro da H' fvs s' hd r
        refine ⟨true, (E c hc).ex, fun _ a ha => ⟨c, da, fs, hc, rfl, rfl, A, H0, O, en.set i none, (R.to s').catch ho hlt hd r hw, ?_⟩, fun z => nomatch z⟩
        cases hh : h c fs (en.set i none) with
        | exc c2 fs2 =>
          rw [hh] at q'
          exact q'.elim
        | stuck =>
          rw [hh] at q'
          exact q'.elim
        | ok f =>
          rw [hh] at q'
          cases f with
          | next e' =>
            have q2 : EndOk3 fr X.K A H0 oN oB O H D (.next (e'.set i none)) := q'
            exact fun O' σ' H2 R' mv => q2 O' _ H2 (ER.uncatch R' hoN) ((Mv.same s').trans mv)
          | ret d =>
            have q2 : EndOk3 fr X.K A H0 oN oB O H D (.ret d) := q'
            exact q2
          | brk e' => exact q'.elim
          | cnt e' => exact q'.elim
      · exact q'.elim
end
end Py

/-! What a suite asks of the caught error: isinstance, fields. -/
namespace Py
open PySem L2 L2H
open He (Fa DefD Tab FnW)
section
variable {X : Cx} {a da : Addr} {oe : Obj} {pn : List (Addr × Obj)} {c : String} {es all fl : List String}
theorem suite_inst {pins : List (Addr × Obj)} {σ : L2.St} {H : Hp} {s : Shared} {fvs : List (Str × V)} (I : Inv (X.suite a ((a, oe) :: pn)) pins σ H s) (hz : Zc (.ref (ca X.K c)) (some da) oe) (hv : ∃ vs, oe.data = .fields vs) (hd : H da = some (.xd fvs)) : ∃ od, PySem.W.InstAt s.heap a oe (ca X.K c) (some od) := by
  obtain ⟨vs, hvs⟩ := hv
  obtain ⟨mA, hns, hr⟩ := (show ObjOk X.prog X.w H s.heap da (.xd fvs) from I.hok da _ hd)
  obtain ⟨od, ho, _⟩ := lookIn_ns hns
  exact ⟨od, (I.pin (a, oe) (List.mem_append_left _ List.mem_cons_self)).1, hz.1, by unfold PySem.W.notCls; rw [hvs] <;> rfl, by rw [hz.2]; exact ho⟩
theorem call_xis1 (E : ErC X.K all fl c) (hz : Zc (.ref (ca X.K c)) (some da) oe) (hv : ∃ vs, oe.data = .fields vs) : CallR (X.suite a ((a, oe) :: pn)) (.builtin "isinstance")
    (fun xs H Q => ∃ (cV : V) (u : Value) (b : Bool) (fvs : List (Str × V)), xs = [.ref a, cV] ∧ ClsV cV u ∧ H da = some (.xd fvs) ∧ PySem.W.kitOne X.K (.ref (ca X.K c)) u = some b ∧ Q (.bl b) H) := by
  intro pins s σ H xs us Q I r h
  obtain ⟨cV, u, b, fvs, rfl, k, hd, e, q⟩ := h
  obtain ⟨u1, u2, rfl, r1, r2⟩ := vals2 r
  cases (show u1 = Value.ref a from r1)
  have e2 := k.eq r2
  subst e2
  obtain ⟨od, J⟩ := suite_inst I hz hv hd
  exact PySem.W.kia_one (PySem.W.kitx_exc E.cl E.ga E.gg E.be E.cc E.cg E.ct E.ob) I.kIn J e (fun z => nomatch z) fun tk => ⟨.bl b, H, I.tok tk, rfl, q⟩
theorem call_xisT (E : ErC X.K all fl c) (hz : Zc (.ref (ca X.K c)) (some da) oe) (hv : ∃ vs, oe.data = .fields vs) : CallR (X.suite a ((a, oe) :: pn)) (.builtin "isinstance")
    (fun xs H Q => ∃ (tp : Addr) (cs : List V) (ws : List Value) (b : Bool) (fvs : List (Str × V)), xs = [.ref a, .ref tp] ∧ H tp = some (.tup cs) ∧ Paired ClsV cs ws ∧ H da = some (.xd fvs) ∧ PySem.W.kitAny X.K (.ref (ca X.K c)) ws = some b ∧ Q (.bl b) H) := by
  intro pins s σ H xs us Q I r h
  obtain ⟨tp, cs, ws, b, fvs, rfl, hT, k, hd, e, q⟩ := h
  obtain ⟨u1, u2, rfl, r1, r2⟩ := vals2 r
  cases (show u1 = Value.ref a from r1)
  cases (show u2 = Value.ref tp from r2)
  obtain ⟨od, J⟩ := suite_inst I hz hv hd
  obtain ⟨hz2, its, rv, o, h1, h2, n, h3⟩ := (show ObjOk X.prog X.w H s.heap tp (.tup cs) from I.hok tp _ hT)
  have e3 := ClsV.all k rv
  subst e3
  obtain ⟨oc, od2, dt, sl⟩ := o
  simp only at h2 h3
  subst h2 h3
  exact PySem.W.kia_tup (PySem.W.kitx_exc E.cl E.ga E.gg E.be E.cc E.cg E.ct E.ob) I.kIn J h1 e (fun z => nomatch z) fun tk => ⟨.bl b, H, I.tok tk, rfl, q⟩
end
/-- a tuple of classes as written, by names -/
inductive XcL (X : Cx) : List Expr → List String → TA → Prop
  | nil : XcL X [] [] tNil
  | cons {e : Expr} {es : List Expr} {t : String} {ts : List String} {r : TA} (h : PE X e (tC (xcV X.K t))) (k : XcL X es ts r) (hs : starEach (e :: es) X.env = (false, eval e X.env) :: starEach es X.env) : XcL X (e :: es) (t :: ts) (tCons (tC (xcV X.K t)) r)
theorem XcL.pa {X : Cx} {es : List Expr} {ts : List String} {r : TA} (h : XcL X es ts r) : PA X es r := by
  induction h with
  | nil => exact pa_nil
  | cons h _ hs ih => exact pa_cons h ih hs
theorem XcL.run {X : Cx} {es : List Expr} {ts : List String} {r : TA} (h : XcL X es ts r) : ∀ {σ : L2.St} {H : Hp} {Q : List V → Hp → Prop}, Q (ts.map (xcV X.K)) H → r σ H Q := by
  induction h with
  | nil => exact fun q => q
  | cons h _ hs ih => exact fun q => ih (Q := fun xs H2 => _) q
theorem xc_all (K : Frag) : ∀ ts : List String, Paired ClsV (ts.map (xcV K)) (ts.map (xcU K))
  | [] => .nil
  | t :: ts => .cons (xc_cls K t) (xc_all K ts)
section
variable {X : Cx} {W : WX} {ow : Ow} {a da : Addr} {oe : Obj} {pn : List (Addr × Obj)} {c t : String} {es all fl ts : List String} {fs : List (String × D)} {i tk : Nat} {e0 b : Expr} {els : List Expr} {r : TA} {p tp pos : Pos} {x : Str}
theorem x_xis1 (E : ErsOk X.K es all fl) (hc : c ∈ es) (hz : Zc (.ref (ca X.K c)) (some da) oe) (hv : ∃ vs, oe.data = .fields vs) (hx : x = "isinstance") (hg : Gl (X.suite a ((a, oe) :: pn)) x) (hm : X.mg x = none) (he : PE (X.suite a ((a, oe) :: pn)) e0 (tVar i)) (hb : PE (X.suite a ((a, oe) :: pn)) b (tC (xcV X.K t)))
    (hs : starEach [e0, b] X.env = (false, eval e0 X.env) :: starEach [b] X.env := by rfl) (hs2 : starEach [b] X.env = [(false, eval b X.env)] := by rfl) (hpl : (backTo pos (starEach [b] X.env)).any (·.1) = false := by rfl) (hx0 : ow.x = some ⟨i, a, da, fs⟩ := by rfl) :
    PE (X.suite a ((a, oe) :: pn)) (.Call (.Name x p) [e0, b] [] pos) (tE X.K W ow (xis es all c [t])) := by
  subst hx
  refine PE.of (pe_callB (call_xis1 (E c hc) hz hv) hg hm (by decide +kernel) (pa_cons he (pa_cons hb pa_nil hs2) hs) (by decide) (by decide) hs hpl) fun σ H Q ⟨A, H0, O, en, R, q⟩ => ?_
  obtain ⟨_, h2, _, fvs, h4, _⟩ := R.exq ⟨i, a, da, fs⟩ hx0
  have q' : Out (xis es all c [t] en) _ _ := q
  unfold xis at q'
  split at q'
  · rename_i hk
    have ht : t ∈ all := by
      rw [Bool.and_eq_true] at hk
      simpa using hk.2
    exact ⟨.ref a, h2, xcV X.K t, xcU X.K t, _, fvs, rfl, xc_cls _ _, h4, (E c hc).kt t ht, q' _ H (Same.refl H) rep_bl⟩
  · exact q'.elim
theorem x_xisT (E : ErsOk X.K es all fl) (hc : c ∈ es) (hz : Zc (.ref (ca X.K c)) (some da) oe) (hv : ∃ vs, oe.data = .fields vs) (hx : x = "isinstance") (hg : Gl (X.suite a ((a, oe) :: pn)) x) (hm : X.mg x = none) (he : PE (X.suite a ((a, oe) :: pn)) e0 (tVar i)) (hb : XcL (X.suite a ((a, oe) :: pn)) els ts r) (hz2 : ts.length ≤ 20)
    (hs : starEach [e0, .Tuple els tk tp] X.env = (false, eval e0 X.env) :: starEach [.Tuple els tk tp] X.env := by rfl) (hs2 : starEach [.Tuple els tk tp] X.env = [(false, eval (.Tuple els tk tp) X.env)] := by rfl) (hpl : (backTo pos (starEach [.Tuple els tk tp] X.env)).any (·.1) = false := by rfl) (hx0 : ow.x = some ⟨i, a, da, fs⟩ := by rfl) :
    PE (X.suite a ((a, oe) :: pn)) (.Call (.Name x p) [e0, .Tuple els tk tp] [] pos) (tE X.K W ow (xis es all c ts)) := by
  subst hx
  refine PE.of (pe_callB (call_xisT (E c hc) hz hv) hg hm (by decide +kernel) (pa_cons he (pa_cons (pe_tup hb.pa) pa_nil hs2) hs) (by decide) (by decide) hs hpl) fun σ H Q ⟨A, H0, O, en, R, q⟩ => ?_
  obtain ⟨_, h2, _, fvs, h4, _⟩ := R.exq ⟨i, a, da, fs⟩ hx0
  have q' : Out (xis es all c ts en) _ _ := q
  unfold xis at q'
  split at q'
  · rename_i hk
    have ht : ∀ t ∈ ts, t ∈ all := fun t h => by
      rw [Bool.and_eq_true] at hk
      simpa using List.all_eq_true.mp hk.2 t h
    refine ⟨.ref a, h2, hb.run ⟨by rw [List.length_map]; exact Nat.le_trans hz2 (by decide), fun p hp => ?_⟩⟩
    exact ⟨p, ts.map (xcV X.K), ts.map (xcU X.K), _, fvs, rfl, upd_same, xc_all _ _, (new_same hp) _ _ h4, kit_anyE (E c hc) ht, q' _ _ (new_same hp) rep_bl⟩
  · exact q'.elim
theorem x_xfld {f : String} (E : ErsOk X.K es all fl) (hc : c ∈ es) (hz : Zc (.ref (ca X.K c)) (some da) oe) (hv : ∃ vs, oe.data = .fields vs) (he : PE (X.suite a ((a, oe) :: pn)) e0 (tVar i))
    (hb : attributeBase e0 (Str.ofString f) X.env (eval e0 X.env) = eval e0 X.env := by rfl) (hx0 : ow.x = some ⟨i, a, da, fs⟩ := by rfl) : PE (X.suite a ((a, oe) :: pn)) (.Attribute e0 (Str.ofString f) pos) (tE X.K W ow (xfld es fl c f fs)) := by
  have Ec := E c hc
  by_cases hf : f ∈ fl
  · refine PE.of (pe_xf ⟨Ec.ga, Ec.gg, Ec.be, Ec.hd⟩ (Ec.fl f hf) hz hv he hb) fun σ H Q ⟨A, H0, O, en, R, q⟩ => ?_
    obtain ⟨_, h2, _, fvs, h4, h5⟩ := R.exq ⟨i, a, da, fs⟩ hx0
    have q' : Out (xfld es fl c f fs en) _ _ := q
    unfold xfld at q'
    split at q'
    · have lk := h5.look (f := f)
      have h6 : ∀ o : Option D, fs.lookup f = o → _ := fun o e => e
      cases e : fs.lookup f with
      | none =>
        rw [e] at q'
        exact q'.elim
      | some d =>
        rw [e] at q'
        have lk2 : ∃ v, fvs.lookup (Str.ofString f) = some v ∧ Rep X.K (AO A O) H d v := by
          dsimp only at lk
          rw [e] at lk
          exact lk
        obtain ⟨v, e1, r1⟩ := lk2
        exact ⟨.ref a, h2, rfl, rfl, da, fvs, v, rfl, h4, e1, q' v H (Same.refl H) r1⟩
    · exact q'.elim
  · refine ⟨fun pins s σ H Q I ⟨A, H0, O, en, R, q⟩ => ?_⟩
    have q' : Out (xfld es fl c f fs en) _ _ := q
    unfold xfld at q'
    rw [if_neg (by simp [hf])] at q'
    exact q'.elim
end
theorem xc_glob {X : Cx} {t : String} {pos : Pos} (h : t ≠ "ValueError") (hg : Gl X (Str.ofString t)) (hm : X.mg (Str.ofString t) = some (.ref (ca X.K t))) (hd : (Str.ofString t == ("__debug__" : Str)) = false := by decide) : PE X (.Name (Str.ofString t) pos) (tC (xcV X.K t)) := by
  unfold xcV
  rw [if_neg h]
  exact pe_glob hg hm rfl hd
theorem hv_ve : bootBuiltins "ValueError" = some (.type "ValueError") := by decide +kernel
theorem xc_ve {X : Cx} {pos : Pos} (hg : Gl X "ValueError") (hm : X.mg "ValueError" = none) : PE X (.Name "ValueError" pos) (tC (xcV X.K "ValueError")) := by
  unfold xcV
  rw [if_pos rfl]
  exact pe_bltn hg hm hv_ve rfl
/-! ### an error's __init__, by the head -/
section
variable {P : Program} {w : World} {K : Frag} {mg : Str → Option Value} {base : Heap} {nm qual self txt : Str} {params : Arguments} {body rest : List Stmt} {scope : Scope} {N ps : List Str} {k : Nat} {ar : Arg} {c : String} {ns : List String}
theorem err_ok (F : ErrF P K c nm qual params body scope ns) (g : mg (Str.ofString c) = some (.ref (ca K c))) (hmg : mg "super" = none) (htop : (P.main.scope.names.lookup ("super" : Str)).isSome = false) (hps : ps = self :: ns.map Str.ofString) (S : NdefX.NScope N ps ["__class__"] scope)
    (har : (params.posonlyargs ++ params.args).head? = some ar) (hself : ar.arg = self) (hsk : scope.names.lookup ("super" : Str) = some .globalImplicit) {p0 p1 p2 p3 p4 p5 : Pos} {j : Nat}
    (hbody : body = .Expr (.Call (.Attribute (.Call (.Name "super" p0) [] [] p1) "__init__" p2) [.Constant (.str txt) j p3] [] p4) p5 :: rest)
    (hbind : ∀ (kV doc pm : Value) (an : Option Addr) (cdv ct : Value) (cc : Addr) (us : List Value), us.length = ps.length → bindArgs (PySem.W.ksFn nm qual params body scope .none kV doc pm an cdv ct cc) ⟨us, []⟩ = pure (ps.zip us))
    {t : TS} (hb : ∀ (f cc cda : Addr) (A : Around) (outer : List PySem.Env) (s : Shared) (H : Hp) (E : XK), PSs (NdefX.ncx (L2N.CX P w) P w K mg base N ⟨nm, qual, params, body, scope, [("__class__", cc)], cda⟩ f A outer s H E) rest t)
    (ht : ∀ (a : Addr) (ws : List V) (H1 : Hp) (Dn : Ends) (σ : L2.St), σ[0]? = some (some (.ref a)) → (∀ i v, ws[i]? = some v → σ[i + 1]? = some (some v)) → ws.length = ns.length → H1 a = none →
      (∀ d H2 σ', H2 a = some (exo a (ca K c) (some d)) → H2 d = some (exd d ((ns.map Str.ofString).zip ws).reverse) → H1 d = none → d ≠ a → (∀ b, b ≠ a → b ≠ d → H2 b = H1 b) → Dn.nx σ' H2) → t Dn σ (upd H1 a (exo a (ca K c) none)))
    (hin : ∀ (L f cda cc : Addr), interactive (PySem.W.ksEnv qual scope L f (.ref cda) cc) = false)
    (hsw : ∀ (L f cda cc : Addr), swapsWith (.Call (.Attribute (.Call (.Name "super" p0) [] [] p1) "__init__" p2) [.Constant (.str txt) j p3] [] p4) none p5.line (PySem.W.ksEnv qual scope L f (.ref cda) cc) = pure false)
    {pl : Addr → Addr → Addr → Sem Bool} (hea : ∀ (L f cda cc : Addr), eval (.Call (.Attribute (.Call (.Name "super" p0) [] [] p1) "__init__" p2) [.Constant (.str txt) j p3] [] p4) (PySem.W.ksEnv qual scope L f (.ref cda) cc) = (do
      let ov ← attributeBase (.Call (.Name "super" p0) [] [] p1) "__init__" (PySem.W.ksEnv qual scope L f (.ref cda) cc) (eval (.Call (.Name "super" p0) [] [] p1) (PySem.W.ksEnv qual scope L f (.ref cda) cc))
      standAt p2.atName
      let (g, first) ← holding [ov] (getMethod ov "__init__" (pl f cda cc))
      callWith p4 g first (backTo p4 (starEach [.Constant (.str txt) j p3] (PySem.W.ksEnv qual scope L f (.ref cda) cc))) []))
    (hst : ∀ (L f cda cc : Addr), starEach [.Constant (.str txt) j p3] (PySem.W.ksEnv qual scope L f (.ref cda) cc) = [(false, eval (.Constant (.str txt) j p3) (PySem.W.ksEnv qual scope L f (.ref cda) cc))]) :
    ErrOk P w K mg base (k + 1) c ns := by
  obtain ⟨⟨cc, cda, fd, XI, kV, doc, pm, an, ct, hfd⟩, hini, htyp, hno⟩ := F
  refine ⟨_, fd, ps, g, XI.T, hini, htyp, ?_, ?_⟩
  · rw [hfd]
    exact .all (hbind kV doc pm an _ ct cc)
  · exact xinit_ok XI hps (by simp) S har hself hmg hsk htop hbody (hb _ cc cda) ht (fun L => hin L _ _ _) (fun L => hsw L _ _ _) (fun L => hea L _ _ _) (fun L => hst L _ _ _)
end
/-! ### the hook, the facts -/
section
open He
abbrev AlY : Type := AlT × Bool × List FnW
def obsY (more : Frag → Bool) (fa : List Fa) (fn xf : List DefD) (ts : List Tab) (K : Frag) : AlY := (obsT fa fn ts K, more K, xf.map fun d => fnWx K d.at_)
def valY (fn xf : List DefD) (ts : List Tab) (w : World) : AlY := (valT fn ts w, true, xf.map DefD.val)
def obsYG (n : Nat) (more : Frag → Bool) (fa : List Fa) (fn xf : List DefD) (ts : List Tab) (g : Addr → Option Obj) : AlY := obsY more fa fn xf ts (frG g (cStatics :: asD g n))
def hookY (n : Nat) (more : Frag → Bool) (fa : List Fa) (fn xf : List DefD) (ts : List Tab) : PySem.W.Hook where
  α := AlY
  obs := fun s => obsYG n more fa fn xf ts s.heap.get?
  val := fun w => valY fn xf ts w
  says := fun w h => ∃ K : PySem.W.Frag, K.In h ∧ SaysT fa fn ts w K ∧ more K = true ∧ (xf.map fun d => fnWx K d.at_) = xf.map DefD.val
  of := fun w s e => by
    have e1 : obsY more fa fn xf ts (frG s.heap.get? (cStatics :: asD s.heap.get? n)) = valY fn xf ts w := e
    unfold obsY valY at e1
    obtain ⟨e2, e3⟩ := Prod.mk.inj e1
    obtain ⟨e4, e5⟩ := Prod.mk.inj e3
    exact ⟨_, frG_in, e2, e4, e5⟩
  keeps := fun _ _ _ ⟨K, hK, c, m⟩ k => ⟨K, PySem.W.Frag.In.keeps hK k, c, m⟩
theorem obsYG_eq {n : Nat} {more : Frag → Bool} {fa : List Fa} {fn xf : List DefD} {ts : List Tab} {g : Addr → Option Obj} {s : Shared} (h : ∀ a, g a = s.heap.get? a) : obsYG n more fa fn xf ts g = (hookY n more fa fn xf ts).obs s := by
  have e : g = s.heap.get? := funext h
  rw [e] <;> rfl
end
structure FactsY (fa : List Fa) (fn xf : List DefD) (ts : List Tab) (ms : List (Frag → Bool)) (file : Str) (P : Program) (w : World) (K : Frag) (mg : Str → Option Value) : Prop extends Facts fa fn ts ms w K mg where
  x : (xf.map fun d => fnWx K d.at_) = xf.map DefD.val
  pf : ((P.main.file : Str) == file) = true
  ps : (P.main.scope.names.lookup ("super" : Str)).isSome = false
section
variable {fa : List Fa} {fn xf : List DefD} {ts : List Tab} {ms : List (Frag → Bool)} {file : Str} {P : Program} {w : World} {K : Frag} {mg : Str → Option Value}
theorem FactsY.err (Y : FactsY fa fn xf ts ms file P w K mg) (i j : Nat) {d : DefD} {c : String} {fs : List String} (h : xf[i]? = some d := by rfl) (hat : d.at_ = (Str.ofString c, some ("__init__" : Str)) := by rfl) (hm : ms[j]? = some (errB file c d.qual fs) := by rfl) : ErrF P K c d.name d.qual d.params d.body d.scope fs := by
  refine err_f hat Y.pf ?_ (Y.toFacts.more j hm)
  have e2 : (xf.map fun d => fnWx K d.at_)[i]? = (xf.map DefD.val)[i]? := by rw [Y.x]
  rw [List.getElem?_map, List.getElem?_map, h] at e2
  exact Option.some.inj e2
end
end Py

/-! A tuple so many times. -/
namespace Py
open PySem L2 PySem.Spec PyProof.Rows
theorem tmul_same (l : Addr) (items : Array Value) (n : Nat) (dd : Option Addr) (sl : Array (Option Value)) (x : Int) (u : Tok) (c0 : (decide (x < -(2 ^ 63)) || decide (x ≥ 2 ^ 63)) = false) (c1 : (items.isEmpty || x == 1) = true) :
    Meets (Builtin.«tuple.__mul__» ⟨[.ref l, .int x u], []⟩) (fun _ R s => s.heap.get? l = some { cls := .type "tuple", dict := dd, data := .seq items n, slots := sl } ∧ R (.ok (.ret (Value.ref l))) s) :=
  .of_wp fun prog w A R s h => by
    obtain ⟨hp, g, d, tk, os⟩ := s
    obtain ⟨hl, h⟩ := h
    have f1 := AutoSeq1.idx_int
    wp_walk using wpAny_loadPart' hl
    refine wpAny_ite_false (decide_eq_false (by rw [c0]; exact Bool.false_ne_true)) ?_
    wp_walk using wpAny_loadPart' hl
    exact ⟨_, rfl, h⟩
theorem tmul_none (l : Addr) (items : Array Value) (n : Nat) (dd : Option Addr) (sl : Array (Option Value)) (x : Int) (u : Tok) (c0 : (decide (x < -(2 ^ 63)) || decide (x ≥ 2 ^ 63)) = false) (c1 : (items.isEmpty || x == 1) = false) (c2 : (decide (x ≤ 0) || items.isEmpty) = true) :
    Meets (Builtin.«tuple.__mul__» ⟨[.ref l, .int x u], []⟩) (fun _ R s => s.heap.get? l = some { cls := .type "tuple", dict := dd, data := .seq items n, slots := sl } ∧ R (.ok (.ret (Value.ref s.heap.objs.size))) { s with heap := s.heap.push { cls := .type "tuple", data := .seq #[] } }) :=
  .of_wp fun prog w A R s h => by
    obtain ⟨hp, g, d, tk, os⟩ := s
    obtain ⟨hl, h⟩ := h
    have f1 := AutoSeq1.idx_int
    wp_walk using wpAny_loadPart' hl
    refine wpAny_ite_false (decide_eq_false (by rw [c0]; exact Bool.false_ne_true)) ?_
    wp_walk using wpAny_loadPart' hl
    exact ⟨_, rfl, h⟩
section
variable {X : Cx}
theorem y_trep : OpR X (binaryOp .Mult) (r2 X.K otrep) := by
  intro pins s σ H x y v u Q I rx ry h
  obtain ⟨A, d1, d2, d, h1, h2, hA, e, q⟩ := h
  cases d1 with
  | tup xs =>
    cases d2 with
    | int k =>
      simp only [otrep] at e
      split at e
      · rename_i hk
        cases e
        have hy : y = .int k := rep_int h2
        subst hy
        obtain ⟨l, vs, rfl, hT, r⟩ := (by simpa only [RepW, Rep] using h1 : ∃ a vs, x = .ref a ∧ SqT X.K H a vs ∧ RepL X.K A H xs vs)
        have hlen := r.length
        by_cases hgen : vs ≠ [] ∧ 2 ≤ k
        · refine op_repT pins s σ H _ _ v u Q I rx ry ⟨l, k, vs, rfl, rfl, hT, hgen.1, hgen.2, by omega, by omega, fun p hp => q _ _ (new_same hp) (new_tup (r.flat k.toNat) hp)⟩
        · cases rx
          obtain ⟨t, rfl⟩ := ry
          obtain ⟨its, rv, ⟨⟨cls, dd, data, sl⟩, ho, hc, n, hd⟩, hs⟩ := I.tuple hT
          simp only at hc hd
          subst hc hd
          have hl2 : its.length = vs.length := rv.length.symm
          have c0 : (decide (k < -(2 ^ 63)) || decide (k ≥ 2 ^ 63)) = false := by
            rw [decide_eq_false (by omega), decide_eq_false (by omega)] <;> rfl
          have road : ∀ {Q' : Value → Shared → Prop}, wpAny (model X.prog X.w) X.A (PySem.call (.builtin "tuple.__mul__") [.ref l, .int k t]) Q' X.xe s → wpAny (model X.prog X.w) X.A (PySem.call (.builtin "tuple.__mul__") [.ref l, .int k t]) Q' X.xe s := fun z => z
          by_cases hsame : vs = [] ∨ k = 1
          · have c1 : (its.toArray.isEmpty || k == 1) = true := by
              rcases hsame with z | z
              · rw [z] at hl2
                have : its = [] := List.eq_nil_of_length_eq_zero hl2
                subst this
                rfl
              · subst z
                simp
            have hres : (List.replicate k.toNat xs).flatten = xs := by
              rcases hsame with z | z
              · subst z
                have : xs = [] := by
                  simp only [List.length_nil] at hlen
                  exact List.eq_nil_of_length_eq_zero hlen
                subst this
                simp
              · subst z
                simp
            refine wpAny_binaryOp_repeat_ref (T := "tuple") (U := "int") (by decide) ⟨_, ho, rfl⟩ (fun s' => typeIs_int s' k t) noFill_tuple_mul F.fills_int_mul F.slot_int_rmul repeat_tuple F.slot_int_index.lookup
              (call_meets F.slot_int_rmul (typeIs_int s k t) F.entry_int_rmul (F.args_int_rmul_2 _ _) (int_rmul_tuple k t l its.toArray n dd sl) ⟨ho, rfl, ⟨_, ho, rfl⟩, ?_⟩)
            refine call_meets F.slot_tuple_mul ⟨_, ho, rfl⟩ F.entry_tuple_mul (F.args_tuple_mul_2 _ _) (tmul_same l its.toArray n dd sl k t c0 c1) ⟨ho, ?_⟩
            refine ⟨.ref l, H, I, rfl, q _ H (Same.refl H) ?_⟩
            rw [hres]
            simp only [Rep]
            exact ⟨l, vs, rfl, hT, r⟩
          · have hk0 : k ≤ 0 := by
              have a1 : vs ≠ [] := fun z => hsame (.inl z)
              have a2 : k ≠ 1 := fun z => hsame (.inr z)
              have a3 : ¬ 2 ≤ k := fun z => hgen ⟨a1, z⟩
              omega
            have c1 : (its.toArray.isEmpty || k == 1) = false := by
              have a1 : its ≠ [] := fun z => by
                subst z
                exact hsame (.inl (List.eq_nil_of_length_eq_zero hl2.symm))
              have a2 : (k == 1) = false := beq_eq_false_iff_ne.mpr fun z => hsame (.inr z)
              rw [a2, Bool.or_false]
              cases its with
              | nil => exact absurd rfl a1
              | cons a b => rfl
            have c2 : (decide (k ≤ 0) || its.toArray.isEmpty) = true := by
              rw [decide_eq_true hk0]
              rfl
            have hres : (List.replicate k.toNat xs).flatten = [] := by
              rw [show k.toNat = 0 by omega]
              simp
            refine wpAny_binaryOp_repeat_ref (T := "tuple") (U := "int") (by decide) ⟨_, ho, rfl⟩ (fun s' => typeIs_int s' k t) noFill_tuple_mul F.fills_int_mul F.slot_int_rmul repeat_tuple F.slot_int_index.lookup
              (call_meets F.slot_int_rmul (typeIs_int s k t) F.entry_int_rmul (F.args_int_rmul_2 _ _) (int_rmul_tuple k t l its.toArray n dd sl) ⟨ho, rfl, ⟨_, ho, rfl⟩, ?_⟩)
            refine call_meets F.slot_tuple_mul ⟨_, ho, rfl⟩ F.entry_tuple_mul (F.args_tuple_mul_2 _ _) (tmul_none l its.toArray n dd sl k t c0 c1 c2) ⟨ho, ?_⟩
            have np : H s.heap.objs.size = none := I.hok.fresh (Nat.le_refl _)
            refine ⟨.ref s.heap.objs.size, _, I.laid (t' := s.toks) (o := .tup []) (fun b ob z => Heap.get?_push_of_some _ z) (Nat.le_refl _) ?_, rfl, q _ _ (new_same np) ?_⟩
            · exact ⟨by simp, [], .nil, IsTup.new _ _⟩
            · rw [hres]
              exact new_tup (by simp [RepL]) np
      · cases e
    | _ => cases e
  | _ => cases e
end
theorem n_trep : NoEx2 otrep := fun x y c fs => by
  cases x <;> cases y <;> simp only [otrep] <;> first | (split <;> exact fun z => nomatch z) | exact fun z => nomatch z
end Py

namespace Py

abbrev CS : List String := ["Row"]
abbrev ES : List String := ["InvalidNumber", "InvalidWords", "InvalidReading", "InvalidMachine", "InvalidRow", "InvalidMarks", "InvalidKind", "InvalidPrimes", "InvalidText", "InvalidCommand", "Undefined", "NothingToDo", "NothingKept"]
abbrev EALL : List String := ["InvalidNumber", "InvalidWords", "InvalidReading", "InvalidMachine", "InvalidRow", "InvalidMarks", "InvalidKind", "InvalidPrimes", "InvalidText", "InvalidCommand", "Undefined", "NothingToDo", "NothingKept", "CarryError", "ValueError"]
abbrev EFL : List String := ["at", "command", "name", "part", "place", "text", "value", "what", "word"]
def tab_SIZES : List (String × Int) := [("zero", 0), ("ones", 0), ("not", 1), ("and", 2), ("or", 2), ("xor", 2), ("shift", 1), ("minus", 1), ("add", 2), ("sub", 2)]
def tup_MARKED : List D := [.str "shift", .str "minus", .str "add", .str "sub", .str "count"]
def b_as_tuple : SM :=
  (seq (ite (tst (un (oisi CS [.lst, .tup]) (var 0))) (ret (un btuple (var 0))) skip)
  (ret (cst .non)))
def m_as_tuple : List D → Res D := fn 1 1 b_as_tuple
def b_is_integer : SM :=
  (ret (andE (un (oisi CS [.int]) (var 0)) (un onb (un (oisi CS [.bl]) (var 0)))))
def m_is_integer : List D → Res D := fn 1 1 b_is_integer
def b_is_below : SM :=
  (ret (andE (call m_is_integer (argC (var 0) argN)) (Py.chain ole olt (cst (.int 0)) (var 0) (var 1))))
def m_is_below : List D → Res D := fn 2 2 b_is_below
def b_are_values : SM :=
  (ret (un ball (lcE (iseq (var 0)) [2] (gnm 2) yes (call m_is_below (argC (var 2) (argC (var 1) argN))))))
def m_are_values : List D → Res D := fn 2 3 b_are_values
def b_is_count_deed : SM :=
  (seq (ite (tst (bin Py.one (un blen (var 0)) (cst (.int 4)))) (ret (cst (.bl false))) skip)
  (seq (asg (gtup [(gnm 2), (gnm 3), (gnm 4)]) (slc (var 0) (some (cst (.int 1))) none))
  (seq (ite (orT (notT (tst (call m_is_integer (argC (var 2) argN)))) (orT (tst (bin onotin (var 2) (tupE (argC (cst (.int 2)) (argC (cst (.int 3)) (argC (cst (.int 5)) argN)))))) (notT (tst (call m_is_below (argC (var 3) (argC (var 2) argN))))))) (ret (cst (.bl false))) skip)
  (ret (andE (un (oisi CS [.tup]) (var 4)) (andE (Py.chain ole ole (cst (.int 1)) (un blen (var 4)) (cst (.int 4))) (call m_are_values (argC (var 4) (argC (var 1) argN)))))))))
def m_is_count_deed : List D → Res D := fn 2 5 b_is_count_deed
def b_is_deed : SM :=
  (seq (ite (orT (notT (tst (un (oisi CS [.tup]) (var 0)))) (orT (notT (tst (var 0))) (notT (tst (un (oisi CS [.str]) (bin oidx (var 0) (cst (.int 0)))))))) (ret (cst (.bl false))) skip)
  (seq (ite (tst (bin oeq (bin oidx (var 0) (cst (.int 0))) (cst (.str "count")))) (ret (call m_is_count_deed (argC (var 0) (argC (var 1) argN)))) skip)
  (seq (ite (orT (tst (un (onothas tab_SIZES) (bin oidx (var 0) (cst (.int 0))))) (tst (bin Py.one (un blen (var 0)) (bin oadd (un (olook tab_SIZES) (bin oidx (var 0) (cst (.int 0)))) (cst (.int 1)))))) (ret (cst (.bl false))) skip)
  (ret (call m_are_values (argC (slc (var 0) (some (cst (.int 1))) none) (argC (var 1) argN)))))))
def m_is_deed : List D → Res D := fn 2 2 b_is_deed
def b_is_inputs : SM :=
  (ret (andE (call m_is_integer (argC (var 0) argN)) (Py.chain ole ole (cst (.int 1)) (var 0) (cst (.int 3)))))
def m_is_inputs : List D → Res D := fn 1 1 b_is_inputs
def b_Row_init : SM :=
  (seq (ite (notT (tst (call m_is_inputs (argC (var 1) argN)))) (rais "InvalidRow" ["part", "place"] (argC (cst (.str "inputs")) (argC (cst (.int 0)) argN))) skip)
  (seq (asg (gnm 4) (call m_as_tuple (argC (var 2) argN)))
  (seq (ite (tst (un oisN (var 4))) (rais "InvalidRow" ["part", "place"] (argC (cst (.str "deeds")) (argC (cst (.int 0)) argN))) skip)
  (seq (for_ (ienum (var 4)) (gtup [(gnm 5), (gnm 6)]) (ite (notT (tst (call m_is_deed (argC (var 6) (argC (bin oadd (var 1) (var 5)) argN))))) (rais "InvalidRow" ["part", "place"] (argC (cst (.str "deeds")) (argC (var 5) argN))) skip))
  (seq (ite (notT (tst (call m_is_below (argC (var 3) (argC (bin oadd (var 1) (un blen (var 4))) argN))))) (rais "InvalidRow" ["part", "place"] (argC (cst (.str "out")) (argC (cst (.int 0)) argN))) skip)
  (seq (setF 0 ["Row"] "inputs" (var 1))
  (seq (setF 0 ["Row"] "deeds" (var 4))
  (setF 0 ["Row"] "out" (var 3)))))))))
def m_Row : List D → Res D := made 4 7 "Row" b_Row_init
def m_law_alike : Nat → List D → Res D
  | 0 => fn 2 3 dead
  | k + 1 => fn 2 3 ((seq (ite (tst (un (oisi CS [.lst, .tup]) (var 1))) (seq (ite (orT (notT (tst (un (oisi CS [.lst, .tup]) (var 0)))) (tst (bin Py.one (un (oisi CS [.lst]) (var 0)) (un (oisi CS [.lst]) (var 1))))) (ret (cst (.bl false))) skip)
  (seq (ite (tst (bin Py.one (un blen (var 0)) (un blen (var 1)))) (ret (cst (.bl false))) skip)
  (seq (for_ (irng1 (un blen (var 1))) (gnm 2) (ite (notT (tst (call (m_law_alike k) (argC (bin oidx (var 0) (var 2)) (argC (bin oidx (var 1) (var 2)) argN))))) (ret (cst (.bl false))) skip))
  (ret (cst (.bl true)))))) skip)
  (seq (ite (tst (un oisN (var 1))) (ret (un oisN (var 0))) skip)
  (seq (ite (tst (un (oisi CS [(.cls "Row")]) (var 1))) (ret (andE (un (oisi CS [(.cls "Row")]) (var 0)) (andE (bin oeq (un (oattr ["Row"] "inputs") (var 0)) (un (oattr ["Row"] "inputs") (var 1))) (andE (bin oeq (un (oattr ["Row"] "deeds") (var 0)) (un (oattr ["Row"] "deeds") (var 1))) (bin oeq (un (oattr ["Row"] "out") (var 0)) (un (oattr ["Row"] "out") (var 1))))))) skip)
  (seq (ite (orT (tst (un (oisi CS [.bl]) (var 1))) (tst (un (oisi CS [.bl]) (var 0)))) (ret (andE (un (oisi CS [.bl]) (var 1)) (andE (un (oisi CS [.bl]) (var 0)) (bin oeq (var 0) (var 1))))) skip)
  (seq (ite (tst (un (oisi CS [.str]) (var 1))) (ret (andE (un (oisi CS [.str]) (var 0)) (bin oeq (var 0) (var 1)))) skip)
  (ret (andE (un (oisi CS [.int]) (var 0)) (bin oeq (var 0) (var 1))))))))))
def b__law_cell : SM :=
  (seq (ite (tst (bin olt (var 1) (un blen (var 0)))) (ret (bin oidx (var 0) (var 1))) skip)
  (seq (ite (tst (bin ogt (un blen (var 0)) (cst (.int 0)))) (ret (bin oadd (bin omod (un bint (bin oidx (var 0) (bin omod (var 1) (un blen (var 0))))) (cst (.int 100003))) (bin omul (cst (.int 7919)) (var 1)))) skip)
  (ret (bin oadd (bin omul (cst (.int 7919)) (var 1)) (cst (.int 5))))))
def m_law_cell : List D → Res D := fn 2 2 b__law_cell
def b__law_deed : SM :=
  (seq (asg (gnm 2) (lstE (argC (cst (.str "zero")) (argC (cst (.str "ones")) (argC (cst (.str "not")) (argC (cst (.str "and")) (argC (cst (.str "or")) (argC (cst (.str "xor")) (argC (cst (.str "shift")) (argC (cst (.str "minus")) (argC (cst (.str "add")) (argC (cst (.str "sub")) argN))))))))))))
  (seq (asg (gnm 3) (bin omod (bin oidx (var 0) (cst (.int 1))) (var 1)))
  (seq (asg (gnm 4) (bin omod (bin oidx (var 0) (cst (.int 2))) (var 1)))
  (seq (ite (tst (bin oge (bin oidx (var 0) (cst (.int 0))) (cst (.int 10)))) (seq (asg (gnm 5) (bin oidx (lstE (argC (cst (.int 2)) (argC (cst (.int 3)) (argC (cst (.int 5)) argN)))) (bin oidx (var 0) (cst (.int 3)))))
  (seq (asg (gnm 6) (tupE (argC (var 3) (argC (var 4) (argC (bin omod (bin oidx (var 0) (cst (.int 4))) (var 1)) (argC (var 3) argN))))))
  (ret (tupE (argC (cst (.str "count")) (argC (var 5) (argC (bin omod (bin oidx (var 0) (cst (.int 5))) (var 5)) (argC (slc (var 6) none (some (bin oadd (cst (.int 1)) (bin oidx (var 0) (cst (.int 6)))))) argN)))))))) skip)
  (seq (ite (tst (bin olt (bin oidx (var 0) (cst (.int 0))) (cst (.int 2)))) (ret (tupE (argC (bin oidx (var 2) (bin oidx (var 0) (cst (.int 0)))) argN))) skip)
  (seq (ite (tst (bin oin (bin oidx (var 0) (cst (.int 0))) (lstE (argC (cst (.int 2)) (argC (cst (.int 6)) (argC (cst (.int 7)) argN)))))) (ret (tupE (argC (bin oidx (var 2) (bin oidx (var 0) (cst (.int 0)))) (argC (var 3) argN)))) skip)
  (ret (tupE (argC (bin oidx (var 2) (bin oidx (var 0) (cst (.int 0)))) (argC (var 3) (argC (var 4) argN)))))))))))
def m_law_deed : List D → Res D := fn 2 7 b__law_deed
def b__law_mixed : SM :=
  (seq (asg (gnm 2) (bin omod (un bint (bin oadd (bin oadd (bin omul (var 0) (cst (.int 48271))) (bin omul (var 1) (cst (.int 1103515245)))) (cst (.int 12345)))) (cst (.int 2147483647))))
  (seq (asg (gnm 3) (bin omod (un bint (bin oadd (bin omul (var 2) (var 2)) (cst (.int 69621)))) (cst (.int 2147483563))))
  (ret (bin ofdiv (bin omod (un bint (bin omul (var 3) (bin oadd (bin omod (var 3) (cst (.int 65521))) (cst (.int 3))))) (cst (.int 1000000007))) (cst (.int 8))))))
def m_law_mixed : List D → Res D := fn 2 4 b__law_mixed
def b__law_draws : SM :=
  (seq (asg (gnm 2) (lstE argN))
  (seq (asg (gnm 3) (var 0))
  (seq (for_ (irng1 (un blen (var 1))) (gnm 4) (ite (andT (tst (bin oge (var 0) (bin opow (cst (.int 10)) (cst (.int 18))))) (andT (tst (bin olt (var 4) (cst (.int 60)))) (tst (bin ogt (var 3) (cst (.int 0)))))) (seq (app 2 (bin omod (un bint (var 3)) (bin oidx (var 1) (var 4))))
  (asg (gnm 3) (bin ofdiv (var 3) (bin oidx (var 1) (var 4))))) (app 2 (bin omod (call m_law_mixed (argC (var 0) (argC (var 4) argN))) (bin oidx (var 1) (var 4))))))
  (ret (var 2)))))
def m_law_draws : List D → Res D := fn 2 5 b__law_draws
def b__law_in_range : SM :=
  (ret (andE (un (oisi CS [.int]) (var 0)) (andE (un onb (un (oisi CS [.bl]) (var 0))) (Py.chain ole ole (var 1) (var 0) (var 2)))))
def m_law_in_range : List D → Res D := fn 3 3 b__law_in_range
def b__law_judged : SM :=
  (seq (ite (orT (notT (tst (un (oisi CS [.tup]) (var 1)))) (tst (bin Py.one (un blen (var 1)) (un blen (var 0))))) (ret (cst (.bl false))) skip)
  (seq (for_ (irng1 (un blen (var 0))) (gnm 2) (ite (notT (tst (call m_law_in_range (argC (bin oidx (var 1) (var 2)) (argC (cst (.int 0)) (argC (bin osub (bin oidx (var 0) (var 2)) (cst (.int 1))) argN)))))) (ret (cst (.bl false))) skip))
  (ret (cst (.bl true)))))
def m_law_judged : List D → Res D := fn 2 3 b__law_judged
def b__law_other : SM :=
  (seq (ite (tst (bin oeq (bin oidx (var 2) (cst (.int 0))) (cst (.int 0)))) (seq (asg (gnm 3) (lstE (argC (un blist (var 0)) (argC (bin oadd (var 0) (tupE (argC (cst (.int 0)) argN))) (argC (slc (var 0) none (some (un oneg (cst (.int 1))))) (argC (cst .non) (argC (cst (.int 0)) (argC (cst (.str "0")) (argC (cst (.bl true)) (argC (tupE (argC (var 0) argN)) (argC (tupE argN) (argC (lstE argN) (argC (call m_Row (argC (cst (.int 1)) (argC (lstE argN) (argC (cst (.int 0)) argN)))) (argC (tupE (argC (lstE (argC (cst (.int 0)) argN)) argN)) (argC (lstE (argC (lstE argN) argN)) argN)))))))))))))))
  (ret (bin oidx (bin oadd (var 3) (lstE (argC (tupE (argC (cst (.int 0)) (argC (cst .non) argN))) (argC (tupE (argC (cst (.int 0)) (argC (tupE (argC (lstE argN) argN)) argN))) (argC (bin oadd (var 0) (tupE (argC (lstE argN) argN))) (argC (tupE (argC (call m_Row (argC (cst (.int 1)) (argC (lstE argN) (argC (cst (.int 0)) argN)))) argN)) argN)))))) (bin oidx (var 2) (cst (.int 1)))))) skip)
  (seq (ite (orT (tst (bin oeq (bin oidx (var 2) (cst (.int 0))) (cst (.int 1)))) (tst (bin oeq (un blen (var 0)) (cst (.int 0))))) (ret (var 0)) skip)
  (seq (asg (gnm 4) (bin omod (bin oidx (var 2) (cst (.int 2))) (un blen (var 0))))
  (seq (asg (gnm 5) (bin oidx (lstE (argC (un oneg (cst (.int 1))) (argC (cst (.int 1)) (argC (cst (.int 2)) (argC (bin oidx (var 1) (var 4)) (argC (bin oadd (bin oidx (var 1) (var 4)) (bin oidx (var 2) (cst (.int 3)))) (argC (cst (.bl true)) (argC (cst (.bl false)) (argC (cst .non) (argC (cst (.str "0")) (argC (tupE (argC (cst (.int 0)) argN)) (argC (bin osub (bin oidx (var 1) (var 4)) (cst (.int 1))) (argC (cst (.int 3)) (argC (lstE (argC (cst (.int 0)) argN)) (argC (call m_Row (argC (cst (.int 1)) (argC (lstE argN) (argC (cst (.int 0)) argN)))) (argC (tupE (argC (lstE argN) argN)) (argC (lstE (argC (lstE argN) argN)) (argC (lstE (argC (bin oidx (var 0) (var 4)) argN)) (argC (tupE (argC (cst .non) argN)) argN))))))))))))))))))) (bin oidx (var 2) (cst (.int 4)))))
  (ret (bin oadd (bin oadd (slc (var 0) none (some (var 4))) (tupE (argC (var 5) argN))) (slc (var 0) (some (bin oadd (var 4) (cst (.int 1)))) none)))))))
def m_law_other : List D → Res D := fn 3 6 b__law_other
def b_mark_deeds : SM :=
  (ret (lcE (iseq (un (oattr ["Row"] "deeds") (var 0))) [1] (gnm 1) (tst (bin oin (bin oidx (var 1) (cst (.int 0))) (cst (.tup tup_MARKED)))) (var 1)))
def m_mark_deeds : List D → Res D := fn 1 2 b_mark_deeds
def b_first_marks : SM :=
  (ret (un btuple (lcE (iseq (call m_mark_deeds (argC (var 0) argN))) [1] (gnm 1) yes (cst (.int 0)))))
def m_first_marks : List D → Res D := fn 1 2 b_first_marks
def b_is_reading : SM :=
  (seq (ite (notT (tst (un (oisi CS [.tup]) (var 0)))) (ret (cst (.bl false))) skip)
  (ret (un ball (lcE (iseq (var 0)) [2] (gnm 2) yes (call m_is_below (argC (var 2) (argC (bin oshl (cst (.int 1)) (var 1)) argN)))))))
def m_is_reading : List D → Res D := fn 2 3 b_is_reading
def b_spread_mark : SM :=
  (seq (asg (gnm 5) (cst (.int 0)))
  (seq (for_ (ienum (var 0)) (gtup [(gnm 6), (gnm 7)]) (ite (tst (bin oeq (bin oidx (var 7) (var 1)) (var 2))) (aug 5 oior (bin oshl (var 3) (bin omul (var 6) (var 4)))) skip))
  (ret (var 5))))
def m_spread_mark : List D → Res D := fn 5 8 b_spread_mark
def b_held_lanes : SM :=
  (seq (asg (gnm 4) (lstE argN))
  (seq (for_ (ienum (call m_mark_deeds (argC (var 0) argN))) (gtup [(gnm 5), (gnm 6)]) (ite (tst (bin oeq (bin oidx (var 6) (cst (.int 0))) (cst (.str "count")))) (app 4 (lcE (irng1 (bin oidx (var 6) (cst (.int 1)))) [7] (gnm 7) yes (call m_spread_mark (argC (var 1) (argC (var 5) (argC (var 7) (argC (var 2) (argC (var 3) argN)))))))) (app 4 (call m_spread_mark (argC (var 1) (argC (var 5) (argC (cst (.int 1)) (argC (var 2) (argC (var 3) argN)))))))))
  (ret (var 4))))
def m_held_lanes : List D → Res D := fn 4 8 b_held_lanes
def b_mark_column : SM :=
  (seq (ite (tst (un (oisi CS [.int]) (var 0))) (ret (lcE (irng1 (var 1)) [2] (gnm 2) yes (bin oand (bin oshr (var 0) (var 2)) (cst (.int 1))))) skip)
  (ret (lcE (irng1 (var 1)) [2] (gnm 2) yes (un bsum (lcE (irng2 (cst (.int 1)) (un blen (var 0))) [3] (gnm 3) yes (bin omul (var 3) (bin oand (bin oshr (bin oidx (var 0) (var 3)) (var 2)) (cst (.int 1)))))))))
def m_mark_column : List D → Res D := fn 2 4 b_mark_column
def b_carry_step : SM :=
  (seq (ite (tst (bin oeq (var 0) (cst (.str "shift")))) (ret (tupE (argC (var 3) (argC (var 1) argN)))) skip)
  (seq (ite (tst (bin oeq (var 0) (cst (.str "minus")))) (ret (tupE (argC (bin oxor (var 1) (var 3)) (argC (bin oor (var 1) (var 3)) argN)))) skip)
  (seq (ite (tst (bin oeq (var 0) (cst (.str "add")))) (ret (tupE (argC (bin oxor (bin oxor (var 1) (var 2)) (var 3)) (argC (bin oor (bin oand (var 1) (var 2)) (bin oand (bin oor (var 1) (var 2)) (var 3))) argN)))) skip)
  (ret (tupE (argC (bin oxor (bin oxor (var 1) (var 2)) (var 3)) (argC (bin oor (bin oand (bin oor (var 2) (var 3)) (un oinv (var 1))) (bin oand (var 2) (var 3))) argN)))))))
def m_carry_step : List D → Res D := fn 4 4 b_carry_step
def b_turned_counts : SM :=
  (seq (asg (gnm 2) (var 0))
  (seq (for_ (iseq (var 1)) (gnm 3) (asg (gnm 2) (lcE (irng1 (un blen (var 2))) [4] (gnm 4) yes (bin oor (bin oand (bin oidx (var 2) (var 4)) (un oinv (var 3))) (bin oand (bin oidx (var 2) (bin osub (var 4) (cst (.int 1)))) (var 3))))))
  (ret (var 2))))
def m_turned_counts : List D → Res D := fn 2 5 b_turned_counts
def b_run_deeds : SM :=
  (seq (asg (gnm 4) (un blist (var 1)))
  (seq (asg (gnm 5) (lstE argN))
  (seq (for_ (iseq (un (oattr ["Row"] "deeds") (var 0))) (gnm 6) (seq (asg (gnm 7) (bin oidx (var 6) (cst (.int 0))))
  (seq (ite (tst (bin oeq (var 7) (cst (.str "and")))) (asg (gnm 8) (bin oand (bin oidx (var 4) (bin oidx (var 6) (cst (.int 1)))) (bin oidx (var 4) (bin oidx (var 6) (cst (.int 2)))))) (ite (tst (bin oeq (var 7) (cst (.str "or")))) (asg (gnm 8) (bin oor (bin oidx (var 4) (bin oidx (var 6) (cst (.int 1)))) (bin oidx (var 4) (bin oidx (var 6) (cst (.int 2)))))) (ite (tst (bin oeq (var 7) (cst (.str "xor")))) (asg (gnm 8) (bin oxor (bin oidx (var 4) (bin oidx (var 6) (cst (.int 1)))) (bin oidx (var 4) (bin oidx (var 6) (cst (.int 2)))))) (ite (tst (bin oeq (var 7) (cst (.str "not")))) (asg (gnm 8) (bin oxor (var 3) (bin oidx (var 4) (bin oidx (var 6) (cst (.int 1)))))) (ite (tst (bin oeq (var 7) (cst (.str "zero")))) (asg (gnm 8) (cst (.int 0))) (ite (tst (bin oeq (var 7) (cst (.str "ones")))) (asg (gnm 8) (var 3)) (ite (tst (bin oeq (var 7) (cst (.str "count")))) (seq (asg (gnm 9) (bin oidx (var 2) (un blen (var 5))))
  (seq (asg (gnm 8) (bin oidx (var 9) (bin oidx (var 6) (cst (.int 2)))))
  (app 5 (call m_turned_counts (argC (var 9) (argC (lcE (iseq (bin oidx (var 6) (cst (.int 3)))) [11] (gnm 11) yes (bin oidx (var 4) (var 11))) argN)))))) (seq (asg (gtup [(gnm 8), (gnm 10)]) (call m_carry_step (argC (var 7) (argC (bin oidx (var 4) (bin oidx (var 6) (cst (.int 1)))) (argC (bin oidx (var 4) (bin oidx (var 6) (un oneg (cst (.int 1))))) (argC (bin oidx (var 2) (un blen (var 5))) argN))))))
  (app 5 (var 10))))))))))
  (app 4 (var 8)))))
  (ret (tupE (argC (var 4) (argC (var 5) argN)))))))
def m_run_deeds : List D → Res D := fn 4 12 b_run_deeds
def b_place_step : SM :=
  (seq (asg (gnm 3) (lcE (irng1 (un (oattr ["Row"] "inputs") (var 0))) [6] (gnm 6) yes (bin oand (bin oshr (var 2) (var 6)) (cst (.int 1)))))
  (seq (asg (gtup [(gnm 4), (gnm 5)]) (call m_run_deeds (argC (var 0) (argC (var 3) (argC (call m_held_lanes (argC (var 0) (argC (lstE (argC (var 1) argN)) (argC (cst (.int 1)) (argC (cst (.int 1)) argN))))) (argC (cst (.int 1)) argN))))))
  (ret (tupE (argC (un btuple (var 4)) (argC (un btuple (lcE (iseq (var 5)) [7] (gnm 7) yes (bin oidx (call m_mark_column (argC (var 7) (argC (cst (.int 1)) argN))) (cst (.int 0))))) argN))))))
def m_place_step : List D → Res D := fn 3 8 b_place_step
def b_marks_after : SM :=
  (seq (ite (notT (tst (call m_is_reading (argC (var 1) (argC (un (oattr ["Row"] "inputs") (var 0)) argN))))) (rais "InvalidReading" ["value"] (argC (var 1) argN)) skip)
  (seq (asg (gnm 2) (call m_first_marks (argC (var 0) argN)))
  (seq (for_ (iseq (var 1)) (gnm 3) (asg (gnm 2) (bin oidx (call m_place_step (argC (var 0) (argC (var 2) (argC (var 3) argN)))) (cst (.int 1)))))
  (ret (var 2)))))
def m_marks_after : List D → Res D := fn 2 4 b_marks_after
def b__law_reading_refused : SM :=
  (seq (tryE ES 2 (Py.drop (call m_marks_after (argC (var 0) (argC (var 1) argN)))) fun c_e fs_e => (seq (ite (tst (xis ES EALL c_e ["InvalidWords", "InvalidNumber", "InvalidMachine", "InvalidRow", "InvalidMarks", "InvalidKind"])) (ret (cst (.bl false))) skip)
  (seq (ite (tst (xis ES EALL c_e ["InvalidPrimes", "InvalidText", "InvalidCommand", "Undefined", "NothingToDo", "NothingKept"])) (ret (cst (.bl false))) skip)
  (ret (andE (xis ES EALL c_e ["InvalidReading"]) (andE (xis ES EALL c_e ["ValueError"]) (call (m_law_alike 12) (argC (xfld ES EFL c_e "value" fs_e) (argC (var 1) argN)))))))))
  (ret (cst (.bl false))))
def m_law_reading_refused : List D → Res D := fn 2 3 b__law_reading_refused
def b_fits_limits : SM :=
  (seq (ite (orT (notT (tst (un (oisi CS [.tup]) (var 0)))) (tst (bin Py.one (un blen (var 0)) (un blen (var 1))))) (ret (cst (.bl false))) skip)
  (ret (un ball (lcE (izip (var 0) (var 1)) [2, 3] (gtup [(gnm 2), (gnm 3)]) yes (call m_is_below (argC (var 2) (argC (var 3) argN)))))))
def m_fits_limits : List D → Res D := fn 2 4 b_fits_limits
def b_mark_limits : SM :=
  (ret (lcE (iseq (call m_mark_deeds (argC (var 0) argN))) [1] (gnm 1) yes (ifE (tst (bin oeq (bin oidx (var 1) (cst (.int 0))) (cst (.str "count")))) (bin oidx (var 1) (cst (.int 1))) (cst (.int 2)))))
def m_mark_limits : List D → Res D := fn 1 2 b_mark_limits
def b_is_marks : SM :=
  (ret (call m_fits_limits (argC (var 1) (argC (call m_mark_limits (argC (var 0) argN)) argN))))
def m_is_marks : List D → Res D := fn 2 2 b_is_marks
def b_mark_step : SM :=
  (seq (ite (notT (tst (call m_is_marks (argC (var 0) (argC (var 1) argN))))) (rais "InvalidMarks" ["value"] (argC (var 1) argN)) skip)
  (seq (ite (notT (tst (call m_is_below (argC (var 2) (argC (bin oshl (cst (.int 1)) (un (oattr ["Row"] "inputs") (var 0))) argN))))) (rais "InvalidNumber" ["value"] (argC (var 2) argN)) skip)
  (ret (call m_place_step (argC (var 0) (argC (var 1) (argC (var 2) argN)))))))
def m_mark_step : List D → Res D := fn 3 3 b_mark_step
def b__law_step_refused : SM :=
  (seq (tryE ES 4 (Py.drop (call m_mark_step (argC (var 0) (argC (var 1) (argC (var 2) argN))))) fun c_e fs_e => (seq (ite (tst (xis ES EALL c_e ["InvalidWords", "InvalidReading", "InvalidMachine", "InvalidRow", "InvalidKind", "InvalidPrimes"])) (ret (cst (.bl false))) skip)
  (seq (ite (tst (xis ES EALL c_e ["InvalidText", "InvalidCommand", "Undefined", "NothingToDo", "NothingKept"])) (ret (cst (.bl false))) skip)
  (seq (ite (orT (tst (bin Py.one (xis ES EALL c_e ["InvalidMarks"]) (var 3))) (tst (bin oeq (xis ES EALL c_e ["InvalidNumber"]) (var 3)))) (ret (cst (.bl false))) skip)
  (seq (ite (tst (var 3)) (ret (andE (xis ES EALL c_e ["ValueError"]) (call (m_law_alike 12) (argC (xfld ES EFL c_e "value" fs_e) (argC (var 1) argN))))) skip)
  (ret (andE (xis ES EALL c_e ["ValueError"]) (call (m_law_alike 12) (argC (xfld ES EFL c_e "value" fs_e) (argC (var 2) argN))))))))))
  (ret (cst (.bl false))))
def m_law_step_refused : List D → Res D := fn 4 5 b__law_step_refused
def b__law_tops : SM :=
  (seq (asg (gnm 1) (lstE argN))
  (seq (for_ (iseq (var 0)) (gnm 2) (seq (ite (tst (bin oin (bin oidx (var 2) (cst (.int 0))) (lstE (argC (cst (.str "shift")) (argC (cst (.str "minus")) (argC (cst (.str "add")) (argC (cst (.str "sub")) argN))))))) (app 1 (cst (.int 2))) skip)
  (ite (tst (bin oeq (bin oidx (var 2) (cst (.int 0))) (cst (.str "count")))) (app 1 (bin oidx (var 2) (cst (.int 1)))) skip)))
  (ret (var 1))))
def m_law_tops : List D → Res D := fn 1 3 b__law_tops
def b__law_holds : SM :=
  (seq (asg (gnm 1) (call m_law_draws (argC (call m_law_cell (argC (var 0) (argC (cst (.int 0)) argN))) (argC (lstE (argC (cst (.int 3)) (argC (cst (.int 11)) (argC (cst (.int 8)) (argC (cst (.int 9)) (argC (cst (.int 12)) (argC (cst (.int 1000)) (argC (cst (.int 64)) (argC (cst (.int 5)) argN))))))))) argN))))
  (seq (asg (gnm 2) (bin oadd (cst (.int 1)) (bin oidx (var 1) (cst (.int 0)))))
  (seq (asg (gnm 3) (lstE argN))
  (seq (for_ (irng1 (bin oidx (var 1) (cst (.int 1)))) (gnm 4) (app 3 (call m_law_deed (argC (call m_law_draws (argC (call m_law_cell (argC (var 0) (argC (bin oadd (cst (.int 4)) (var 4)) argN))) (argC (lstE (argC (cst (.int 14)) (argC (cst (.int 13)) (argC (cst (.int 13)) (argC (cst (.int 3)) (argC (cst (.int 13)) (argC (cst (.int 30)) (argC (cst (.int 4)) argN)))))))) argN))) (argC (bin oadd (var 2) (var 4)) argN)))))
  (seq (asg (gnm 5) (call m_Row (argC (var 2) (argC (un blist (var 3)) (argC (bin osub (bin oadd (var 2) (un blen (var 3))) (cst (.int 1))) argN)))))
  (seq (asg (gnm 6) (call m_law_tops (argC (var 3) argN)))
  (seq (asg (gnm 7) (bin otrep (tupE (argC (cst (.int 0)) argN)) (un blen (var 6))))
  (seq (ite (orT (notT (tst (call (m_law_alike 12) (argC (call m_first_marks (argC (var 5) argN)) (argC (var 7) argN))))) (notT (tst (call (m_law_alike 12) (argC (call (kwc 1 [0] m_first_marks) (argC (var 5) argN)) (argC (var 7) argN)))))) (ret (cst (.bl false))) skip)
  (seq (asg (gnm 8) (un btuple (call m_law_draws (argC (call m_law_cell (argC (var 0) (argC (cst (.int 1)) argN))) (argC (var 6) argN)))))
  (seq (asg (gnm 9) (call m_law_other (argC (var 8) (argC (var 6) (argC (call m_law_draws (argC (call m_law_cell (argC (var 0) (argC (cst (.int 2)) argN))) (argC (lstE (argC (cst (.int 4)) (argC (cst (.int 17)) (argC (cst (.int 10)) (argC (cst (.int 1000)) (argC (cst (.int 18)) argN)))))) argN))) argN)))))
  (seq (asg (gnm 10) (call m_law_other (argC (var 8) (argC (var 6) (argC (bin oadd (lstE (argC (cst (.int 0)) argN)) (call m_law_draws (argC (call m_law_cell (argC (var 0) (argC (cst (.int 14)) argN))) (argC (lstE (argC (cst (.int 17)) argN)) argN)))) argN)))))
  (seq (for_ (iseq (lstE (argC (var 8) (argC (var 9) (argC (var 10) (argC (bin otrep (tupE (argC (cst (.int 0)) argN)) (un blen (var 6))) (argC (un blist (var 8)) (argC (bin oadd (var 8) (tupE (argC (cst (.int 0)) argN))) argN)))))))) (gnm 11) (seq (asg (gnm 12) (call m_is_marks (argC (var 5) (argC (var 11) argN))))
  (seq (ite (orT (notT (tst (un (oisi CS [.bl]) (var 12)))) (tst (bin Py.one (var 12) (call m_law_judged (argC (var 6) (argC (var 11) argN)))))) (ret (cst (.bl false))) skip)
  (ite (tst (bin Py.one (call (kwc 2 [1, 0] m_is_marks) (argC (var 11) (argC (var 5) argN))) (var 12))) (ret (cst (.bl false))) skip))))
  (seq (asg (gnm 13) (bin oshl (cst (.int 1)) (var 2)))
  (seq (asg (gnm 14) (bin omod (bin oidx (var 1) (cst (.int 2))) (var 13)))
  (seq (asg (gnm 15) (bin oidx (lstE (argC (un oneg (cst (.int 1))) (argC (var 13) (argC (bin oadd (var 13) (bin oidx (var 1) (cst (.int 5)))) (argC (cst (.bl true)) (argC (cst (.bl false)) (argC (cst .non) (argC (cst (.str "0")) (argC (tupE (argC (cst (.int 0)) argN)) (argC (lstE (argC (cst (.int 0)) argN)) (argC (un oneg (bin opow (cst (.int 10)) (cst (.int 30)))) (argC (tupE argN) (argC (cst (.str "")) argN))))))))))))) (bin oidx (var 1) (cst (.int 4)))))
  (seq (ite (notT (tst (call m_law_judged (argC (var 6) (argC (var 9) argN))))) (ite (orT (notT (tst (call m_law_step_refused (argC (var 5) (argC (var 9) (argC (var 14) (argC (cst (.bl true)) argN))))))) (notT (tst (call m_law_step_refused (argC (var 5) (argC (var 9) (argC (var 15) (argC (cst (.bl true)) argN)))))))) (ret (cst (.bl false))) skip) skip)
  (seq (ite (notT (tst (call m_law_step_refused (argC (var 5) (argC (var 8) (argC (var 15) (argC (cst (.bl false)) argN))))))) (ret (cst (.bl false))) skip)
  (seq (asg (gnm 16) (call m_law_draws (argC (call m_law_cell (argC (var 0) (argC (cst (.int 3)) argN))) (argC (bin olrep (lstE (argC (var 13) argN)) (bin oadd (cst (.int 1)) (bin oidx (var 1) (cst (.int 3))))) argN))))
  (seq (asg (gnm 17) (bin omod (bin oidx (var 1) (cst (.int 6))) (un blen (var 16))))
  (seq (asg (gnm 18) (bin oadd (bin oadd (un btuple (slc (var 16) none (some (var 17)))) (tupE (argC (var 15) argN))) (un btuple (slc (var 16) (some (bin oadd (var 17) (cst (.int 1)))) none))))
  (seq (ite (tst (bin oeq (bin oidx (var 1) (cst (.int 7))) (cst (.int 0)))) (asg (gnm 18) (bin oidx (lstE (argC (un blist (var 16)) (argC (cst .non) (argC (cst (.int 0)) (argC (cst (.str "01")) (argC (tupE (argC (un btuple (var 16)) argN)) (argC (cst (.bl true)) (argC (lstE argN) (argC (cst (.str "")) (argC (un oneg (cst (.int 1))) (argC (lstE (argC (tupE (argC (cst (.int 0)) argN)) argN)) (argC (var 13) (argC (tupE (argC (tupE argN) argN)) argN))))))))))))) (bin oidx (var 1) (cst (.int 4))))) skip)
  (seq (ite (notT (tst (call m_law_reading_refused (argC (var 5) (argC (var 18) argN))))) (ret (cst (.bl false))) skip)
  (seq (asg (gnm 19) (call m_mark_step (argC (var 5) (argC (var 8) (argC (var 14) argN)))))
  (seq (ite (orT (notT (tst (un (oisi CS [.tup]) (var 19)))) (tst (bin Py.one (un blen (var 19)) (cst (.int 2))))) (ret (cst (.bl false))) skip)
  (ret (call m_law_judged (argC (var 6) (argC (call (kwc 2 [1, 0] m_marks_after) (argC (un btuple (var 16)) (argC (var 5) argN))) argN))))))))))))))))))))))))))))
def m_law_holds : List D → Res D := fn 1 20 b__law_holds
def b_law : SM :=
  (thru (ret (call m_law_holds (argC (var 0) argN))))
def m_law : List D → Res D := fn 1 1 b_law
end Py

/-! How the mirrors are computed: equations, loops, comprehensions. -/
namespace Py.U
open PySem
/-! ### equations -/
theorem var_eq {i : Nat} {e : Env} {d : D} (h : e[i]? = some (some d)) : var i e = .ok d := by
  unfold var
  rw [h]
@[simp] theorem cst_eq (d : D) (e : Env) : cst d e = .ok d := rfl
@[simp] theorem un_eq (f : D → Res D) (a : EM) (e : Env) : un f a e = (a e >>= f) := rfl
@[simp] theorem bin_eq (f : D → D → Res D) (a b : EM) (e : Env) : bin f a b e = (a e >>= fun x => b e >>= fun y => f x y) := rfl
@[simp] theorem argN_eq (e : Env) : argN e = .ok [] := rfl
@[simp] theorem argC_eq (a : EM) (r : AM) (e : Env) : argC a r e = (a e >>= fun x => r e >>= fun xs => .ok (x :: xs)) := rfl
@[simp] theorem call_eq (f : List D → Res D) (a : AM) (e : Env) : call f a e = (a e >>= f) := rfl
@[simp] theorem tst_eq (a : EM) (e : Env) : tst a e = (a e >>= truthy) := rfl
@[simp] theorem andT_eq (a b : TM) (e : Env) : andT a b e = (a e >>= fun x => if x then b e else .ok false) := rfl
@[simp] theorem orT_eq (a b : TM) (e : Env) : orT a b e = (a e >>= fun x => if x then .ok true else b e) := rfl
@[simp] theorem notT_eq (a : TM) (e : Env) : notT a e = (a e >>= fun x => .ok (!x)) := rfl
@[simp] theorem ifE_eq (t : TM) (a b : EM) (e : Env) : ifE t a b e = (t e >>= fun x => if x then a e else b e) := rfl
@[simp] theorem ite_eq (t : TM) (a b : SM) (e : Env) : ite t a b e = (t e >>= fun x => if x then a e else b e) := rfl
@[simp] theorem skip_eq (e : Env) : skip e = .ok (.next e) := rfl
@[simp] theorem ret_eq (m : EM) (e : Env) : ret m e = (m e >>= fun d => .ok (.ret d)) := rfl
@[simp] theorem asg_eq (g : GM) (m : EM) (e : Env) : asg g m e = (m e >>= fun d => lift (g d e) >>= fun e' => .ok (.next e')) := rfl
@[simp] theorem gnm_eq (i : Nat) (d : D) (e : Env) : gnm i d e = some (e.set i (some d)) := rfl
@[simp] theorem seq_eq (a b : SM) (e : Env) : seq a b e = (a e >>= fun f => match f with | .next e' => b e' | r => .ok r) := rfl
@[simp] theorem forB_eq (g : GM) (b : SM) (x : D) (e : Env) : forB g b x e = (lift (g x e) >>= b) := rfl
@[simp] theorem drop_eq (m : EM) (e : Env) : Py.drop m e = (m e >>= fun _ => .ok (.next e)) := rfl
@[simp] theorem tupE_eq (a : AM) (e : Env) : tupE a e = (a e >>= fun xs => chk xs.length (.tup xs)) := rfl
@[simp] theorem lstE_eq (a : AM) (e : Env) : lstE a e = (a e >>= fun xs => chk xs.length (.lst xs)) := rfl
@[simp] theorem andE_eq (a b : EM) (e : Env) : andE a b e = (a e >>= fun x => match x with | .bl true => b e | .bl false => .ok (.bl false) | _ => .stuck) := rfl
@[simp] theorem orE_eq (a b : EM) (e : Env) : orE a b e = (a e >>= fun x => match x with | .bl false => b e | .bl true => .ok (.bl true) | _ => .stuck) := rfl
@[simp] theorem chain_eq (f g : D → D → Res D) (a b c : EM) (e : Env) : chain f g a b c e = (a e >>= fun x => b e >>= fun y => f x y >>= fun z => match z with
  | .bl true => c e >>= fun u => g y u
  | .bl false => .ok (.bl false)
  | _ => .stuck) := rfl
@[simp] theorem iseq_eq (a : EM) (e : Env) : iseq a e = (a e >>= fun x => match x with | .lst xs => .ok xs | .tup xs => .ok xs | _ => .stuck) := rfl
@[simp] theorem for_eq (it : IM) (g : GM) (b : SM) (e : Env) : for_ it g b e = (it e >>= fun xs => forL (forB g b) xs e) := rfl
@[simp] theorem app_eq (i : Nat) (m : EM) (e : Env) : app i m e = (var i e >>= fun l => match l with
  | .lst xs => m e >>= fun d => if xs.length < SZ then .ok (.next (e.set i (some (.lst (xs ++ [d]))))) else .stuck
  | _ => .stuck) := rfl
@[simp] theorem aug_eq (i : Nat) (f : D → D → Res D) (m : EM) (e : Env) : aug i f m e = (var i e >>= fun x => m e >>= fun y => f x y >>= fun z => .ok (.next (e.set i (some z)))) := rfl
@[simp] theorem done_next (e : Env) : done (.ok (.next e)) = .ok .non := rfl
@[simp] theorem done_ret (d : D) : done (.ok (.ret d)) = .ok d := rfl
@[simp] theorem thru_eq (m : SM) (e : Env) : thru m e = noexc (m e) := rfl
@[simp] theorem brk_eq (e : Env) : brk e = .ok (.brk e) := rfl
@[simp] theorem cnt_eq (e : Env) : cnt e = .ok (.cnt e) := rfl
@[simp] theorem retN_eq (e : Env) : retN e = .ok (.ret .non) := rfl
@[simp] theorem chk_0 {d : D} : chk 0 d = .ok d := chk_ok (by decide)
@[simp] theorem chk_1 {d : D} : chk 1 d = .ok d := chk_ok (by decide)
@[simp] theorem chk_2 {d : D} : chk 2 d = .ok d := chk_ok (by decide)
@[simp] theorem chk_3 {d : D} : chk 3 d = .ok d := chk_ok (by decide)
@[simp] theorem chk_4 {d : D} : chk 4 d = .ok d := chk_ok (by decide)
@[simp] theorem chk_5 {d : D} : chk 5 d = .ok d := chk_ok (by decide)
@[simp] theorem chk_6 {d : D} : chk 6 d = .ok d := chk_ok (by decide)
@[simp] theorem chk_7 {d : D} : chk 7 d = .ok d := chk_ok (by decide)
@[simp] theorem chk_8 {d : D} : chk 8 d = .ok d := chk_ok (by decide)
@[simp] theorem chk_9 {d : D} : chk 9 d = .ok d := chk_ok (by decide)
@[simp] theorem chk_10 {d : D} : chk 10 d = .ok d := chk_ok (by decide)
@[simp] theorem chk_11 {d : D} : chk 11 d = .ok d := chk_ok (by decide)
@[simp] theorem chk_12 {d : D} : chk 12 d = .ok d := chk_ok (by decide)
@[simp] theorem chk_13 {d : D} : chk 13 d = .ok d := chk_ok (by decide)
@[simp] theorem chk_14 {d : D} : chk 14 d = .ok d := chk_ok (by decide)
@[simp] theorem chk_15 {d : D} : chk 15 d = .ok d := chk_ok (by decide)
@[simp] theorem chk_16 {d : D} : chk 16 d = .ok d := chk_ok (by decide)
@[simp] theorem chk_17 {d : D} : chk 17 d = .ok d := chk_ok (by decide)
@[simp] theorem chk_18 {d : D} : chk 18 d = .ok d := chk_ok (by decide)
@[simp] theorem chk_19 {d : D} : chk 19 d = .ok d := chk_ok (by decide)
@[simp] theorem chk_20 {d : D} : chk 20 d = .ok d := chk_ok (by decide)
@[simp] theorem chk_21 {d : D} : chk 21 d = .ok d := chk_ok (by decide)
@[simp] theorem chk_22 {d : D} : chk 22 d = .ok d := chk_ok (by decide)
@[simp] theorem chk_23 {d : D} : chk 23 d = .ok d := chk_ok (by decide)
theorem chk_sm {n : Nat} {d : D} (h : n ≤ 1000000) : chk n d = .ok d := chk_ok (Nat.le_trans h (by decide))
/-! ### calls of defs -/
theorem fn_eq {p n : Nat} {b : SM} {ds : List D} (h : ds.length = p) : fn p n b ds = done (b (ds.map some ++ List.replicate (n - p) none)) := if_pos h
theorem fn1 {n : Nat} {b : SM} {x : D} : fn 1 n b [x] = done (b (some x :: List.replicate (n - 1) none)) := if_pos rfl
theorem fn2 {n : Nat} {b : SM} {x y : D} : fn 2 n b [x, y] = done (b (some x :: some y :: List.replicate (n - 2) none)) := if_pos rfl
theorem fn3 {n : Nat} {b : SM} {x y z : D} : fn 3 n b [x, y, z] = done (b (some x :: some y :: some z :: List.replicate (n - 3) none)) := if_pos rfl
theorem fn4 {n : Nat} {b : SM} {x y z u : D} : fn 4 n b [x, y, z, u] = done (b (some x :: some y :: some z :: some u :: List.replicate (n - 4) none)) := if_pos rfl
/-! ### operators on numbers -/
@[simp] theorem oadd_ii (i j : Int) : oadd (.int i) (.int j) = .ok (.int (i + j)) := rfl
@[simp] theorem osub_ii (i j : Int) : osub (.int i) (.int j) = .ok (.int (i - j)) := rfl
theorem omul_ii {i j : Int} (h : i.natAbs < B64 ∨ j.natAbs < B64) : omul (.int i) (.int j) = .ok (.int (i * j)) := if_pos h
theorem omul_l {i j : Int} (h : -18446744073709551616 < i) (h' : i < 18446744073709551616) : omul (.int i) (.int j) = .ok (.int (i * j)) := omul_ii (.inl (by unfold B64; omega))
theorem omul_r {i j : Int} (h : -18446744073709551616 < j) (h' : j < 18446744073709551616) : omul (.int i) (.int j) = .ok (.int (i * j)) := omul_ii (.inr (by unfold B64; omega))
theorem opow18 : opow (.int 10) (.int 18) = .ok (.int 1000000000000000000) := rfl
theorem omod_ii {i j : Int} (h : 0 < j) : omod (.int i) (.int j) = .ok (.int (i % j)) := if_pos h
theorem ofdiv_ii {i j : Int} (h : 0 < j ∧ j < 1073741824) : ofdiv (.int i) (.int j) = .ok (.int (i / j)) := if_pos h
theorem oshl_ii {i j : Int} (h : 0 ≤ j ∧ (Builtin.Int.intBits i : Int) + j ≤ 134217728) : oshl (.int i) (.int j) = .ok (.int (i * 2 ^ j.toNat)) := if_pos h
theorem oshr_ii {i j : Int} (h : 0 ≤ j) : oshr (.int i) (.int j) = .ok (.int (i / 2 ^ j.toNat)) := if_pos h
@[simp] theorem oand_ii (i j : Int) : oand (.int i) (.int j) = .ok (.int (Builtin.bitAnd i j)) := rfl
@[simp] theorem olt_ii (i j : Int) : olt (.int i) (.int j) = .ok (.bl (decide (i < j))) := rfl
@[simp] theorem ole_ii (i j : Int) : ole (.int i) (.int j) = .ok (.bl (decide (i ≤ j))) := rfl
@[simp] theorem ogt_ii (i j : Int) : ogt (.int i) (.int j) = .ok (.bl (decide (j < i))) := rfl
@[simp] theorem oge_ii (i j : Int) : oge (.int i) (.int j) = .ok (.bl (decide (j ≤ i))) := rfl
@[simp] theorem oneg_i (i : Int) : oneg (.int i) = .ok (.int (-i)) := rfl
@[simp] theorem oeq_ii (i j : Int) : oeq (.int i) (.int j) = .ok (.bl (i == j)) := rfl
@[simp] theorem one_ii (i j : Int) : Py.one (.int i) (.int j) = .ok (.bl (!(i == j))) := rfl
@[simp] theorem bint_i (i : Int) : bint (.int i) = .ok (.int i) := rfl
@[simp] theorem bint_b (b : Bool) : bint (.bl b) = .ok (.int (b2i b)) := rfl
@[simp] theorem truthy_b (b : Bool) : truthy (.bl b) = .ok b := rfl
@[simp] theorem truthy_i (i : Int) : truthy (.int i) = .ok (i != 0) := rfl
@[simp] theorem blen_l (xs : List D) : blen (.lst xs) = .ok (.int xs.length) := rfl
@[simp] theorem blen_t (xs : List D) : blen (.tup xs) = .ok (.int xs.length) := rfl
@[simp] theorem btuple_l (xs : List D) : btuple (.lst xs) = .ok (.tup xs) := rfl
@[simp] theorem btuple_t (xs : List D) : btuple (.tup xs) = .ok (.tup xs) := rfl
@[simp] theorem blist_l (xs : List D) : blist (.lst xs) = .ok (.lst xs) := rfl
@[simp] theorem blist_t (xs : List D) : blist (.tup xs) = .ok (.lst xs) := rfl
@[simp] theorem onb_b (b : Bool) : onb (.bl b) = .ok (.bl (!b)) := rfl
/-! ### subscripts -/
theorem ixN_nat {n k : Nat} (h : k < n) : L2.ixN n (k : Int) = some k := by
  unfold L2.ixN
  simp [h]
theorem atI_nat {α : Type} {xs : List α} {k : Nat} (h : k < xs.length) : L2.atI xs (k : Int) = some xs[k] := by
  unfold L2.atI
  rw [ixN_nat h]
  simp [h]
theorem oidx_l {xs : List D} {k : Nat} {d : D} (h : xs[k]? = some d) : oidx (.lst xs) (.int (k : Int)) = .ok d := by
  have hk : k < xs.length := by
    rcases Nat.lt_or_ge k xs.length with h1 | h1
    · exact h1
    · rw [List.getElem?_eq_none h1] at h
      cases h
  unfold oidx
  simp only [atI_nat hk, opt]
  rw [List.getElem?_eq_getElem hk] at h
  rw [Option.some.inj h]
theorem oidx_t {xs : List D} {k : Nat} {d : D} (h : xs[k]? = some d) : oidx (.tup xs) (.int (k : Int)) = .ok d := by
  have q : oidx (.tup xs) (.int (k : Int)) = oidx (.lst xs) (.int (k : Int)) := rfl
  rw [q]
  exact oidx_l h
/-! ### loops -/
theorem rng_map (n : Nat) : rngL 0 (n : Int) = (List.range n).map fun i => D.int ((i : Nat) : Int) := by
  unfold rngL
  rw [Int.sub_zero, Int.toNat_natCast]
  refine List.map_congr_left fun i _ => ?_
  rw [Int.zero_add]
theorem rng_lt {n : Nat} (h : n ≤ 1000) : n < B62 := Nat.lt_of_le_of_lt h (by decide)
theorem irng1_int {a : EM} {e : Env} {i : Int} (h : a e = .ok (.int i)) : irng1 a e = if i.natAbs < B62 then .ok (rngL 0 i) else .stuck := by
  unfold irng1
  simp only [h, bind_ok]
theorem irng1_nat {a : EM} {e : Env} {n : Nat} (h : a e = .ok (.int (n : Int))) (hn : n < B62) : irng1 a e = .ok ((List.range n).map fun i => .int ((i : Nat) : Int)) := by
  rw [← rng_map, irng1_int h]
  exact if_pos hn
theorem forL_inv {b : D → Env → Res Fl} (I : Nat → Env → Prop) : ∀ {xs : List D} {e : Env} (k : Nat), I k e → (∀ i e, (h : i < xs.length) → I (k + i) e → ∃ e', b xs[i] e = .ok (.next e') ∧ I (k + i + 1) e') → ∃ e', forL b xs e = .ok (.next e') ∧ I (k + xs.length) e'
  | [], e, k, h, _ => ⟨e, rfl, h⟩
  | x :: xs, e, k, h, hb => by
    obtain ⟨e1, h1, i1⟩ := hb 0 e (by simp) h
    have h1' : b x e = .ok (.next e1) := h1
    obtain ⟨e2, h2, i2⟩ := forL_inv (xs := xs) I (k + 1) i1 fun i e' hi hI => by
      have hI' : I (k + (i + 1)) e' := by
        rw [show k + (i + 1) = k + 1 + i by omega]
        exact hI
      obtain ⟨e3, h3, i3⟩ := hb (i + 1) e' (by simpa using hi) hI'
      refine ⟨e3, by simpa using h3, ?_⟩
      rw [show k + 1 + i + 1 = k + (i + 1) + 1 by omega]
      exact i3
    refine ⟨e2, ?_, ?_⟩
    · unfold forL
      rw [h1']
      exact h2
    · rw [show k + (x :: xs).length = k + 1 + xs.length by simp; omega]
      exact i2
/-- for each of range(n) -/
theorem forR_inv {b : D → Env → Res Fl} (I : Nat → Env → Prop) {n : Nat} {e : Env} (h0 : I 0 e) (hb : ∀ i e, i < n → I i e → ∃ e', b (.int ((i : Nat) : Int)) e = .ok (.next e') ∧ I (i + 1) e') :
    ∃ e', forL b ((List.range n).map fun i => .int ((i : Nat) : Int)) e = .ok (.next e') ∧ I n e' := by
  have q := forL_inv (b := b) (xs := (List.range n).map fun i => .int ((i : Nat) : Int)) I 0 h0 fun i e' hi hI => by
    have hi' : i < n := by simpa using hi
    have := hb i e' hi' (by simpa using hI)
    simpa using this
  simpa using q
/-- for each: return if it is so -/
theorem forL_find {b : D → Env → Res Fl} {p : D → Bool} {d : D} {i : Nat} : ∀ {xs : List D} {e : Env}, (∀ x ∈ xs, ∀ o, b x (e.set i o) = if p x then .ok (.ret d) else .ok (.next (e.set i (some x)))) → (b' : ∀ x ∈ xs, b x e = if p x then .ok (.ret d) else .ok (.next (e.set i (some x)))) →
    (xs.any p = true → forL b xs e = .ok (.ret d)) ∧ (xs.any p = false → ∃ o, forL b xs e = .ok (.next o) ∧ (o = e ∨ ∃ x, o = e.set i (some x)))
  | [], e, _, _ => ⟨fun h => by simp at h, fun _ => ⟨e, rfl, .inl rfl⟩⟩
  | x :: xs, e, h, h' => by
    have q := h' x List.mem_cons_self
    cases e1 : p x with
    | true =>
      rw [e1] at q
      refine ⟨fun _ => ?_, fun z => by simp [e1] at z⟩
      unfold forL
      rw [q] <;> rfl
    | false =>
      rw [e1] at q
      have ss : ∀ o, (e.set i (some x)).set i o = e.set i o := fun o => by simp [List.set_set]
      obtain ⟨q1, q2⟩ := forL_find (xs := xs) (e := e.set i (some x)) (b := b) (p := p) (d := d) (i := i) (fun y hy o => by
        rw [ss, ss]
        exact h y (List.mem_cons_of_mem _ hy) o) (fun y hy => by
        rw [ss]
        exact h y (List.mem_cons_of_mem _ hy) (some x))
      have e2 : forL b (x :: xs) e = forL b xs (e.set i (some x)) := by
        rw [forL]
        rw [q] <;> rfl
      refine ⟨fun z => ?_, fun z => ?_⟩
      · rw [e2]
        exact q1 (by simpa [e1] using z)
      · rw [e2]
        obtain ⟨o, h1, h2⟩ := q2 (by simpa [e1] using z)
        refine ⟨o, h1, .inr ?_⟩
        rcases h2 with h2 | ⟨y, h2⟩
        · exact ⟨x, h2⟩
        · exact ⟨y, by rw [h2, ss]⟩
/-! ### comprehensions -/
theorem compL_map {f : D → Res (Option D)} {h : D → D} : ∀ {xs : List D}, (∀ x ∈ xs, f x = .ok (some (h x))) → compL f xs = .ok (xs.map h)
  | [], _ => rfl
  | x :: xs, q => by
    unfold compL
    rw [q x List.mem_cons_self, compL_map fun y hy => q y (List.mem_cons_of_mem _ hy)] <;> rfl
/-- [elt for x in xs] -/
theorem lc_map {it : IM} {vs : List Nat} {g : GM} {elt : EM} {e : Env} {xs : List D} {h : D → D} (hi : it e = .ok xs) (hz : xs.length ≤ SZ) (hx : ∀ x ∈ xs, ∃ e1, g x (wipe e vs) = some e1 ∧ elt e1 = .ok (h x)) : lcE it vs g yes elt e = .ok (.lst (xs.map h)) := by
  unfold lcE
  rw [hi]
  have q : compL (compF vs g yes elt e) xs = .ok (xs.map h) := compL_map fun x hm => by
    obtain ⟨e1, h1, h2⟩ := hx x hm
    unfold compF
    rw [h1]
    simp [yes, h2]
  simp only [bind_ok, q, noexc_ok, List.length_map]
  exact chk_ok hz
/-! ### sums, all -/
theorem intsOf_map : ∀ is : List Int, intsOf (is.map .int) = some is
  | [] => rfl
  | i :: is => by
    simp only [List.map_cons, intsOf, intsOf_map is]
    rfl
theorem boolsOf_map : ∀ is : List Bool, boolsOf (is.map .bl) = some is
  | [] => rfl
  | i :: is => by
    simp only [List.map_cons, boolsOf, boolsOf_map is]
    rfl
theorem bsum_ints (is : List Int) : bsum (.lst (is.map .int)) = .ok (.int is.sum) := by
  unfold bsum
  simp only [intsOf_map]
theorem ball_bools (bs : List Bool) : ball (.lst (bs.map .bl)) = .ok (.bl (bs.all id)) := by
  unfold ball
  simp only [boolsOf_map]
/-! ### bits -/
def bitI (c : Int) (p : Nat) : Int := c / 2 ^ p % 2
theorem bitI_01 (c : Int) (p : Nat) : bitI c p = 0 ∨ bitI c p = 1 := by
  unfold bitI
  omega
theorem oand1 (i : Int) : oand (.int i) (.int 1) = .ok (.int (i % 2)) := by rw [oand_ii, PyProof.Rows.bitAnd_m1]
theorem oshr_nat (c : Int) (p : Nat) : oshr (.int c) (.int (p : Int)) = .ok (.int (c / 2 ^ p)) := by
  rw [oshr_ii (Int.natCast_nonneg p), Int.toNat_natCast]
theorem intBits_1 : (Builtin.Int.intBits 1 : Int) = 1 := by decide
theorem intBits_0 : (Builtin.Int.intBits 0 : Int) = 0 := by decide
theorem oshl1 (p : Nat) (h : p ≤ 1000) : oshl (.int 1) (.int (p : Int)) = .ok (.int (2 ^ p)) := by
  rw [oshl_ii ⟨Int.natCast_nonneg p, by rw [intBits_1]; omega⟩, Int.toNat_natCast, Int.one_mul]
theorem oshl_bit {b : Int} (hb : b = 0 ∨ b = 1) (p : Nat) (h : p ≤ 1000) : oshl (.int b) (.int (p : Int)) = .ok (.int (b * 2 ^ p)) := by
  rw [oshl_ii ⟨Int.natCast_nonneg p, by rcases hb with e | e <;> subst e <;> (first | rw [intBits_0] | rw [intBits_1]) <;> omega⟩, Int.toNat_natCast]
theorem bits_sum (c : Int) : ∀ w : Nat, ((List.range w).map fun p => bitI c p * 2 ^ p).sum = c % 2 ^ w
  | 0 => by simp [Int.emod_one]
  | w + 1 => by
    rw [List.range_succ, List.map_append, List.sum_append, bits_sum c w]
    have h : c % 2 ^ (w + 1) = c % 2 ^ w + 2 ^ w * (c / 2 ^ w % 2) := by
      have h2 : (2 : Int) ^ (w + 1) = 2 ^ w * 2 := Int.pow_succ 2 w
      have h3 : (0 : Int) ≤ 2 ^ w := Int.le_of_lt (Int.pow_pos (by decide))
      have e1 := Int.emod_def c (2 ^ w)
      have e2 := Int.emod_def c (2 ^ w * 2)
      have e3 := Int.emod_def (c / 2 ^ w) 2
      have e4 : c / 2 ^ w / 2 = c / (2 ^ w * 2) := Int.ediv_ediv_of_nonneg h3
      rw [h2, e1, e2, e3, ← e4, Int.mul_sub, Int.mul_assoc]
      omega
    rw [h]
    simp [bitI, Int.mul_comm]
end Py.U

/-! More about mirrors: comprehensions over made lists, enumerate, slices, draws. -/
namespace Py.U
open PySem
theorem lst_at (ns : List Int) {k : Nat} (h : k < ns.length) : oidx (.lst (ns.map .int)) (.int (k : Int)) = .ok (.int ns[k]) := oidx_l (by simp [h])
def Drawn : List Int → List Int → Prop
  | [], [] => True
  | d :: ds, s :: ss => (0 ≤ d ∧ d < s) ∧ Drawn ds ss
  | _, _ => False
theorem Drawn.snoc : ∀ {ds ss : List Int} {d s : Int}, Drawn ds ss → 0 ≤ d → d < s → Drawn (ds ++ [d]) (ss ++ [s])
  | [], [], _, _, _, h1, h2 => ⟨⟨h1, h2⟩, trivial⟩
  | d :: ds, s :: ss, _, _, h, h1, h2 => ⟨h.1, Drawn.snoc h.2 h1 h2⟩
  | [], _ :: _, _, _, h, _, _ => h.elim
  | _ :: _, [], _, _, h, _, _ => h.elim
theorem Drawn.length : ∀ {ds ss : List Int}, Drawn ds ss → ds.length = ss.length
  | [], [], _ => rfl
  | d :: ds, s :: ss, h => congrArg (· + 1) (Drawn.length h.2)
  | [], _ :: _, h => h.elim
  | _ :: _, [], h => h.elim
theorem rng3 {e : Env} : irng1 (cst (.int 3)) e = .ok [.int 0, .int 1, .int 2] := by
  rw [irng1_int (i := 3) rfl]
  rfl
theorem pow_nat (w : Nat) : ((2 : Int) ^ w) = ((2 ^ w : Nat) : Int) := by simp
theorem pow_pos2 (w : Nat) : (0 : Int) < 2 ^ w := Int.pow_pos (by decide)
theorem le_sz {n : Nat} (h : n ≤ 1000) : n ≤ SZ := Nat.le_trans h (by decide)
theorem pl_mono : ∀ (n m : Nat) (d : D), pl n d = true → n ≤ m → pl m d = true
  | _, _, .non, _, _ => by simp [pl]
  | _, _, .bl _, _, _ => by simp [pl]
  | _, _, .int _, _, _ => by simp [pl]
  | _, _, .str _, _, _ => by simp [pl]
  | 0, _, .tup _, h, _ => by simp [pl] at h
  | 0, _, .lst _, h, _ => by simp [pl] at h
  | n + 1, 0, .tup _, _, h => by omega
  | n + 1, 0, .lst _, _, h => by omega
  | n + 1, m + 1, .tup xs, h, hl => by
    simp only [pl, List.all_eq_true] at h ⊢
    exact fun x hx => pl_mono n m x (h x hx) (by omega)
  | n + 1, m + 1, .lst xs, h, hl => by
    simp only [pl, List.all_eq_true] at h ⊢
    exact fun x hx => pl_mono n m x (h x hx) (by omega)
  | n, _, .ins _ _, h, _ => by cases n <;> simp [pl] at h
  | n, _, .dic _, h, _ => by cases n <;> simp [pl] at h
mutual
theorem eqv_refl : ∀ (n : Nat) (d : D), pl n d = true → eqv d d = true
  | _, .non, _ => by simp [eqv]
  | _, .bl _, _ => by simp [eqv]
  | _, .int _, _ => by simp [eqv]
  | _, .str _, _ => by simp [eqv]
  | 0, .tup _, h => by simp [pl] at h
  | 0, .lst _, h => by simp [pl] at h
  | n + 1, .tup xs, h => by
    simp only [pl] at h
    unfold eqv
    exact eqv_reflL n xs h
  | n + 1, .lst xs, h => by
    simp only [pl] at h
    unfold eqv
    exact eqv_reflL n xs h
  | n, .ins _ _, h => by cases n <;> simp [pl] at h
  | n, .dic _, h => by cases n <;> simp [pl] at h
theorem eqv_reflL : ∀ (n : Nat) (ds : List D), ds.all (pl n) = true → eqv.eqvL ds ds = true
  | _, [], _ => by simp [eqv.eqvL]
  | n, d :: ds, h => by
    simp only [List.all_cons, Bool.and_eq_true] at h
    simp only [eqv.eqvL, eqv_refl n d h.1, eqv_reflL n ds h.2, Bool.and_self]
end
theorem compL_mapI {α : Type} {f : D → Res (Option D)} {k h : α → D} : ∀ {ys : List α}, (∀ y ∈ ys, f (k y) = .ok (some (h y))) → compL f (ys.map k) = .ok (ys.map h)
  | [], _ => rfl
  | y :: ys, q => by
    rw [List.map_cons, List.map_cons]
    unfold compL
    rw [q y List.mem_cons_self, compL_mapI fun z hz => q z (List.mem_cons_of_mem _ hz)] <;> rfl
theorem lc_mapI {α : Type} {it : IM} {vs : List Nat} {g : GM} {elt : EM} {e : Env} {ys : List α} {k h : α → D} (hi : it e = .ok (ys.map k)) (hz : ys.length ≤ SZ) (hx : ∀ y ∈ ys, ∃ e1, g (k y) (wipe e vs) = some e1 ∧ elt e1 = .ok (h y)) : lcE it vs g yes elt e = .ok (.lst (ys.map h)) := by
  unfold lcE
  rw [hi]
  have q : compL (compF vs g yes elt e) (ys.map k) = .ok (ys.map h) := compL_mapI fun x hm => by
    obtain ⟨e1, h1, h2⟩ := hx x hm
    unfold compF
    rw [h1]
    simp [yes, h2]
  simp only [bind_ok, q, noexc_ok, List.length_map]
  exact chk_ok hz
theorem sum_map {α : Type} (f : α → Int) (ys : List α) : bsum (.lst (ys.map fun y => .int (f y))) = .ok (.int (ys.map f).sum) := by
  have q := bsum_ints (ys.map f)
  rw [List.map_map] at q
  exact q
theorem enumL_snoc : ∀ (xs : List D) (k : Nat) (d : D), enumL k (xs ++ [d]) = enumL k xs ++ [.tup [.int ((k + xs.length : Nat) : Int), d]]
  | [], k, d => by simp [enumL]
  | x :: xs, k, d => by
    simp only [List.cons_append, enumL, enumL_snoc xs (k + 1) d, List.length_cons]
    rw [show k + 1 + xs.length = k + (xs.length + 1) by omega]
theorem enum_rng (f : Nat → D) : ∀ w : Nat, enumL 0 ((List.range w).map f) = (List.range w).map fun p => .tup [.int ((p : Nat) : Int), f p]
  | 0 => rfl
  | w + 1 => by
    rw [List.range_succ, List.map_append, List.map_append, List.map_singleton, List.map_singleton, enumL_snoc, enum_rng f w]
    simp
theorem getD_map (cs : List Int) : (List.range cs.length).map (fun i => cs.getD i 0) = cs := by
  apply List.ext_getElem
  · simp
  · intro i h1 h2
    simp at h1
    simp [h1]
theorem seq_next {a b : SM} {e e' : Env} (h : a e = .ok (.next e')) : seq a b e = b e' := by
  rw [seq_eq, h]
  rfl
theorem oidx_mem {xs : List D} {i : Int} (h0 : 0 ≤ i) (h1 : i < (xs.length : Int)) : ∃ d ∈ xs, oidx (.lst xs) (.int i) = .ok d := by
  obtain ⟨k, rfl⟩ : ∃ k : Nat, i = (k : Int) := ⟨i.toNat, by omega⟩
  have hk : k < xs.length := by omega
  exact ⟨xs[k], List.getElem_mem hk, oidx_l (by simp [hk])⟩
theorem cut_mem {α : Type} {xs : List α} {lo hi : Option Int} {x : α} (h : x ∈ cut xs lo hi) : x ∈ xs := List.mem_of_mem_drop (List.mem_of_mem_take h)
theorem cut_len {α : Type} {xs : List α} {lo hi : Option Int} : (cut xs lo hi).length ≤ xs.length := by
  unfold cut
  rw [List.length_take, List.length_drop]
  omega
theorem ix30 {a b c : D} : oidx (.lst [a, b, c]) (.int 0) = .ok a := rfl
theorem ix31 {a b c : D} : oidx (.lst [a, b, c]) (.int 1) = .ok b := rfl
theorem ix32 {a b c : D} : oidx (.lst [a, b, c]) (.int 2) = .ok c := rfl
theorem ix40 {a b c d : D} : oidx (.lst [a, b, c, d]) (.int 0) = .ok a := rfl
theorem ix41 {a b c d : D} : oidx (.lst [a, b, c, d]) (.int 1) = .ok b := rfl
theorem ix42 {a b c d : D} : oidx (.lst [a, b, c, d]) (.int 2) = .ok c := rfl
theorem ix43 {a b c d : D} : oidx (.lst [a, b, c, d]) (.int 3) = .ok d := rfl
theorem oslc_l (xs : List D) (lo hi : Option Int) : oslc (.lst xs) lo hi = .ok (.lst (cut xs lo hi)) := rfl
theorem oadd_ll {a b : List D} (h : a.length + b.length ≤ SZ) : oadd (.lst a) (.lst b) = .ok (.lst (a ++ b)) := if_pos h
theorem slc_eq (a : EM) (lo hi : Option EM) (e : Env) : slc a lo hi e = (a e >>= fun x => slc.bnd lo e >>= fun i => slc.bnd hi e >>= fun j => oslc x i j) := rfl
theorem bnd_none (e : Env) : slc.bnd none e = .ok none := rfl
theorem bnd_some (m : EM) (e : Env) : slc.bnd (some m) e = (m e >>= fun d => match d with | .int i => .ok (some i) | _ => .stuck) := rfl
end Py.U

namespace Py.U
open PySem
theorem cell_ok (ns : List Int) (k : Nat) : ∃ c : Int, m_law_cell [.lst (ns.map .int), .int (k : Int)] = .ok (.int c) := by
  unfold m_law_cell
  rw [fn2]
  unfold b__law_cell
  by_cases h : k < ns.length
  · have h' : (k : Int) < (ns.length : Int) := by omega
    refine ⟨ns[k], ?_⟩
    simp [var, h', lst_at ns h]
  · have h' : ¬ (k : Int) < (ns.length : Int) := by omega
    by_cases h0 : 0 < ns.length
    · have h0' : (0 : Int) < (ns.length : Int) := by omega
      have hm : k % ns.length < ns.length := Nat.mod_lt _ h0
      have e1 : omod (.int (k : Int)) (.int (ns.length : Int)) = .ok (.int ((k : Int) % (ns.length : Int))) := omod_ii h0'
      have e2 := lst_at ns hm
      rw [Int.natCast_emod] at e2
      refine ⟨ns[k % ns.length] % 100003 + 7919 * k, ?_⟩
      simp [var, h', h0, e1, e2, omod_ii, omul_l, omul_r]
    · refine ⟨7919 * k + 5, ?_⟩
      simp [var, h', h0, omul_l, omul_r]
theorem mixed_ok (c k : Int) : ∃ r : Int, 0 ≤ r ∧ r < 125000001 ∧ m_law_mixed [.int c, .int k] = .ok (.int r) := by
  unfold m_law_mixed
  rw [fn2]
  unfold b__law_mixed
  have a0 := Int.emod_nonneg (c * 48271 + k * 1103515245 + 12345) (b := 2147483647) (by decide)
  have a1 := Int.emod_lt_of_pos (c * 48271 + k * 1103515245 + 12345) (b := 2147483647) (by decide)
  generalize e1 : (c * 48271 + k * 1103515245 + 12345) % 2147483647 = a at a0 a1
  have b0 := Int.emod_nonneg (a * a + 69621) (b := 2147483563) (by decide)
  have b1 := Int.emod_lt_of_pos (a * a + 69621) (b := 2147483563) (by decide)
  generalize e2 : (a * a + 69621) % 2147483563 = b at b0 b1
  have m1 : omul (.int a) (.int a) = .ok (.int (a * a)) := omul_ii (by unfold B64; omega)
  have m2 : omul (.int b) (.int (b % 65521 + 3)) = .ok (.int (b * (b % 65521 + 3))) := omul_ii (by unfold B64; omega)
  have c0 := Int.emod_nonneg (b * (b % 65521 + 3)) (b := 1000000007) (by decide)
  have c1 := Int.emod_lt_of_pos (b * (b % 65521 + 3)) (b := 1000000007) (by decide)
  refine ⟨b * (b % 65521 + 3) % 1000000007 / 8, by omega, by omega, ?_⟩
  simp [var, omod_ii, omul_l, omul_r, ofdiv_ii, e1, e2, m1, m2]
def DI (c : Int) (ss : List Int) (i : Nat) (e : Env) : Prop := ∃ (ds : List Int) (l : Int) (o : Option D), Drawn ds (ss.take i) ∧ e = [some (.int c), some (.lst (ss.map .int)), some (.lst (ds.map .int)), some (.int l), o]
def drawB : SM := Py.ite (andT (tst (bin oge (var 0) (bin opow (cst (.int 10)) (cst (.int 18))))) (andT (tst (bin olt (var 4) (cst (.int 60)))) (tst (bin ogt (var 3) (cst (.int 0)))))) (seq (app 2 (bin omod (un bint (var 3)) (bin oidx (var 1) (var 4))))
  (asg (gnm 3) (bin ofdiv (var 3) (bin oidx (var 1) (var 4))))) (app 2 (bin omod (call m_law_mixed (argC (var 0) (argC (var 4) argN))) (bin oidx (var 1) (var 4))))
theorem draw1 {c l z s r : Int} {ss ds : List Int} {o : Option D} (ix : oidx (.lst (ss.map .int)) (.int z) = .ok (.int s)) (h1 : 0 < s) (h2 : s < 1073741824) (hr : m_law_mixed [.int c, .int z] = .ok (.int r)) (hl : ds.length < SZ) :
    drawB [some (.int c), some (.lst (ss.map .int)), some (.lst (ds.map .int)), some (.int l), some (.int z)] =
      if 1000000000000000000 ≤ c ∧ z < 60 ∧ 0 < l then .ok (.next [some (.int c), some (.lst (ss.map .int)), some (.lst ((ds ++ [l % s]).map .int)), some (.int (l / s)), some (.int z)])
      else .ok (.next [some (.int c), some (.lst (ss.map .int)), some (.lst ((ds ++ [r % s]).map .int)), some (.int l), some (.int z)]) := by
  have hp := opow18
  have hl2 : (ds.map D.int).length < SZ := by rw [List.length_map]; exact hl
  unfold drawB
  by_cases g1 : (1000000000000000000 : Int) ≤ c
  · by_cases g2 : z < 60
    · by_cases g3 : 0 < l
      · simp [var, hp, g1, g2, g3, ix, omod_ii h1, ofdiv_ii ⟨h1, h2⟩, hl]
      · simp [var, hp, g1, g2, g3, ix, omod_ii h1, hr, hl]
    · simp [var, hp, g1, g2, ix, omod_ii h1, hr, hl]
  · simp [var, hp, g1, ix, omod_ii h1, hr, hl]
theorem draw_step {c : Int} {ss : List Int} (hz : ss.length < 1000) (hs : ∀ s ∈ ss, 0 < s ∧ s < 1073741824) : ∀ i e, i < ss.length → DI c ss i e → ∃ e', forB (gnm 4) drawB (.int ((i : Nat) : Int)) e = .ok (.next e') ∧ DI c ss (i + 1) e' := by
    rintro i e hi ⟨ds, l, o, hd, rfl⟩
    have hl := hd.length
    rw [List.length_take] at hl
    have hl2 : ds.length < SZ := by
      have : ds.length < 1000 := by omega
      exact Nat.lt_trans this (by decide)
    obtain ⟨h1, h2⟩ := hs ss[i] (List.getElem_mem hi)
    have ix := lst_at ss hi
    have ht : ss.take (i + 1) = ss.take i ++ [ss[i]] := by rw [List.take_add_one]; simp [hi]
    obtain ⟨r, r0, r1, hr⟩ := mixed_ok c i
    have q := draw1 (l := l) (o := o) ix h1 h2 hr hl2
    rw [forB_eq, gnm_eq, lift_some, bind_ok]
    by_cases g : (1000000000000000000 : Int) ≤ c ∧ (i : Int) < 60 ∧ 0 < l
    · rw [if_pos g] at q
      exact ⟨_, q, ds ++ [l % ss[i]], l / ss[i], _, by rw [ht]; exact hd.snoc (Int.emod_nonneg _ (by omega)) (Int.emod_lt_of_pos _ h1), rfl⟩
    · rw [if_neg g] at q
      exact ⟨_, q, ds ++ [r % ss[i]], l, _, by rw [ht]; exact hd.snoc (Int.emod_nonneg _ (by omega)) (Int.emod_lt_of_pos _ h1), rfl⟩
theorem v1 (c : Int) (ss : List Int) (hz : ss.length < 1000) (hs : ∀ s ∈ ss, 0 < s ∧ s < 1073741824) : ∃ ds : List Int, Drawn ds ss ∧ ∃ l o, forL (forB (gnm 4) drawB) ((List.range ss.length).map fun i => .int ((i : Nat) : Int)) [some (.int c), some (.lst (ss.map .int)), some (.lst []), some (.int c), none] = .ok (.next [some (.int c), some (.lst (ss.map .int)), some (.lst (ds.map .int)), some (.int l), o]) := by
  obtain ⟨e', h1, ds, l, o, hd, rfl⟩ := forR_inv (e := [some (.int c), some (.lst (ss.map .int)), some (.lst []), some (.int c), none]) (DI c ss) ⟨[], c, none, by simp [Drawn], rfl⟩ (draw_step hz hs)
  rw [List.take_length] at hd
  exact ⟨ds, hd, l, o, h1⟩
theorem v2 (c : Int) (ss : List Int) (hz : ss.length < 1000) : irng1 (un blen (var 1)) [some (.int c), some (.lst (ss.map .int)), some (.lst []), some (.int c), none] = .ok ((List.range ss.length).map fun i => .int ((i : Nat) : Int)) := by
  have hn : ss.length < B62 := rng_lt (by omega)
  exact irng1_nat (n := ss.length) (by simp [var]) hn
theorem draws_ok (c : Int) (ss : List Int) (hz : ss.length < 1000) (hs : ∀ s ∈ ss, 0 < s ∧ s < 1073741824) : ∃ ds : List Int, Drawn ds ss ∧ m_law_draws [.int c, .lst (ss.map .int)] = .ok (.lst (ds.map .int)) := by
  obtain ⟨ds, hd, l, o, h1⟩ := v1 c ss hz hs
  have hr := v2 c ss hz
  refine ⟨ds, hd, ?_⟩
  unfold m_law_draws
  rw [fn2]
  unfold b__law_draws
  have hc : chk ([] : List D).length (.lst []) = .ok (.lst []) := rfl
  show done (seq (asg (gnm 2) (lstE argN)) (seq (asg (gnm 3) (var 0)) (seq (for_ (irng1 (un blen (var 1))) (gnm 4) drawB) (ret (var 2)))) [some (.int c), some (.lst (ss.map .int)), none, none, none]) = _
  rw [seq_eq, asg_eq, lstE_eq, argN_eq, bind_ok, hc, bind_ok, gnm_eq, lift_some, bind_ok, bind_ok]
  dsimp only
  rw [seq_eq, asg_eq]
  have e1 : var 0 (List.set [some (D.int c), some (D.lst (ss.map .int)), none, none, none] 2 (some (D.lst []))) = .ok (.int c) := rfl
  rw [e1, bind_ok, gnm_eq, lift_some, bind_ok, bind_ok]
  dsimp only
  rw [seq_eq, for_eq]
  have e2 : irng1 (un blen (var 1)) (List.set (List.set [some (D.int c), some (D.lst (ss.map .int)), none, none, none] 2 (some (D.lst []))) 3 (some (D.int c))) = _ := hr
  rw [e2, bind_ok]
  have e3 : forL (forB (gnm 4) drawB) ((List.range ss.length).map fun i => .int ((i : Nat) : Int)) (List.set (List.set [some (D.int c), some (D.lst (ss.map .int)), none, none, none] 2 (some (D.lst []))) 3 (some (D.int c))) = _ := h1
  rw [e3, bind_ok]
  rfl

end Py.U

namespace Py.U
open PySem
/-! ### deeds -/
inductive Deed where
  | zero | ones | inv (a : Nat) | and (a b : Nat) | or (a b : Nat) | xor (a b : Nat)
  | shift (a : Nat) | minus (a : Nat) | add (a b : Nat) | sub (a b : Nat) | count (p r : Nat) (ps : List Nat)
def nD (n : Nat) : D := .int (n : Int)
def Deed.d : Deed → D
  | .zero => .tup [.str "zero"]
  | .ones => .tup [.str "ones"]
  | .inv a => .tup [.str "not", nD a]
  | .and a b => .tup [.str "and", nD a, nD b]
  | .or a b => .tup [.str "or", nD a, nD b]
  | .xor a b => .tup [.str "xor", nD a, nD b]
  | .shift a => .tup [.str "shift", nD a]
  | .minus a => .tup [.str "minus", nD a]
  | .add a b => .tup [.str "add", nD a, nD b]
  | .sub a b => .tup [.str "sub", nD a, nD b]
  | .count p r ps => .tup [.str "count", nD p, nD r, .tup (ps.map nD)]
/-- its values stand ahead of n -/
def Deed.ok (n : Nat) : Deed → Prop
  | .zero => True
  | .ones => True
  | .inv a => a < n
  | .and a b => a < n ∧ b < n
  | .or a b => a < n ∧ b < n
  | .xor a b => a < n ∧ b < n
  | .shift a => a < n
  | .minus a => a < n
  | .add a b => a < n ∧ b < n
  | .sub a b => a < n ∧ b < n
  | .count p r ps => (p = 2 ∨ p = 3 ∨ p = 5) ∧ r < p ∧ 1 ≤ ps.length ∧ ps.length ≤ 4 ∧ ∀ a ∈ ps, a < n
theorem ix7 {a b c d e f g : D} : oidx (.lst [a, b, c, d, e, f, g]) (.int 0) = .ok a ∧ oidx (.lst [a, b, c, d, e, f, g]) (.int 1) = .ok b ∧ oidx (.lst [a, b, c, d, e, f, g]) (.int 2) = .ok c ∧ oidx (.lst [a, b, c, d, e, f, g]) (.int 3) = .ok d ∧ oidx (.lst [a, b, c, d, e, f, g]) (.int 4) = .ok e ∧ oidx (.lst [a, b, c, d, e, f, g]) (.int 5) = .ok f ∧ oidx (.lst [a, b, c, d, e, f, g]) (.int 6) = .ok g := ⟨rfl, rfl, rfl, rfl, rfl, rfl, rfl⟩
theorem mod_nat (z : Int) {n : Nat} (h : 0 < n) : ∃ a : Nat, a < n ∧ z % (n : Int) = (a : Int) := by
  have h0 : (0 : Int) < (n : Int) := by omega
  have a0 := Int.emod_nonneg z (b := (n : Int)) (by omega)
  have a1 := Int.emod_lt_of_pos z h0
  exact ⟨(z % (n : Int)).toNat, by omega, by omega⟩
def namesD : List D := [.str "zero", .str "ones", .str "not", .str "and", .str "or", .str "xor", .str "shift", .str "minus", .str "add", .str "sub"]
/-! ### deeds drawn -/
theorem ix7' {a b c d e f g : D} : oidx (.lst [a, b, c, d, e, f, g]) (.int 0) = .ok a ∧ oidx (.lst [a, b, c, d, e, f, g]) (.int 1) = .ok b ∧ oidx (.lst [a, b, c, d, e, f, g]) (.int 2) = .ok c ∧ oidx (.lst [a, b, c, d, e, f, g]) (.int 3) = .ok d ∧ oidx (.lst [a, b, c, d, e, f, g]) (.int 4) = .ok e ∧ oidx (.lst [a, b, c, d, e, f, g]) (.int 5) = .ok f ∧ oidx (.lst [a, b, c, d, e, f, g]) (.int 6) = .ok g := ⟨rfl, rfl, rfl, rfl, rfl, rfl, rfl⟩
theorem deed_ok {n : Nat} (hn : 0 < n) (d0 d1 d2 d3 d4 d5 d6 : Int) (h0 : 0 ≤ d0 ∧ d0 < 14) (h3 : 0 ≤ d3 ∧ d3 < 3) (h6 : 0 ≤ d6 ∧ d6 < 4) :
    ∃ x : Deed, x.ok n ∧ m_law_deed [.lst [.int d0, .int d1, .int d2, .int d3, .int d4, .int d5, .int d6], .int (n : Int)] = .ok x.d := by
  obtain ⟨a, ha, ea⟩ := mod_nat d1 hn
  obtain ⟨b, hb, eb⟩ := mod_nat d2 hn
  obtain ⟨c, hc, ec⟩ := mod_nat d4 hn
  have hn0 : (0 : Int) < (n : Int) := by omega
  have m1 : omod (.int d1) (.int (n : Int)) = .ok (nD a) := by rw [omod_ii hn0, ea]; rfl
  have m2 : omod (.int d2) (.int (n : Int)) = .ok (nD b) := by rw [omod_ii hn0, eb]; rfl
  have m4 : omod (.int d4) (.int (n : Int)) = .ok (nD c) := by rw [omod_ii hn0, ec]; rfl
  obtain ⟨i0, i1, i2, i3, i4, i5, i6⟩ := @ix7' (.int d0) (.int d1) (.int d2) (.int d3) (.int d4) (.int d5) (.int d6)
  generalize hL : D.lst [.int d0, .int d1, .int d2, .int d3, .int d4, .int d5, .int d6] = L at *
  generalize (n : Int) = N at *
  unfold m_law_deed
  rw [fn2]
  unfold b__law_deed
  by_cases g : 10 ≤ d0
  · have q3 : d3 = 0 ∨ d3 = 1 ∨ d3 = 2 := by omega
    have q6 : d6 = 0 ∨ d6 = 1 ∨ d6 = 2 ∨ d6 = 3 := by omega
    have key : ∀ p : Nat, (p = 2 ∨ p = 3 ∨ p = 5) → oidx (.lst [.int 2, .int 3, .int 5]) (.int d3) = .ok (nD p) → ∃ x : Deed, x.ok n ∧ done (b__law_deed [some L, some (.int N), none, none, none, none, none]) = .ok x.d := fun p hp hi => by
      obtain ⟨r, hr, er⟩ := mod_nat d5 (n := p) (by omega)
      have m5 : omod (.int d5) (nD p) = .ok (nD r) := by
        unfold nD
        rw [omod_ii (by omega), er]
      have fin : ∀ ps : List Nat, oslc (.tup [nD a, nD b, nD c, nD a]) none (some (1 + d6)) = .ok (.tup (ps.map nD)) → 1 ≤ ps.length → ps.length ≤ 4 → (∀ a ∈ ps, a < n) → ∃ x : Deed, x.ok n ∧ done (b__law_deed [some L, some (.int N), none, none, none, none, none]) = .ok x.d := fun ps hs l1 l4 hm => by
        refine ⟨.count p r ps, ⟨hp, hr, l1, l4, hm⟩, ?_⟩
        unfold b__law_deed
        simp [var, i0, i1, i2, i3, i4, i5, i6, m1, m2, m4, m5, g, hi, slc_eq, bnd_none, bnd_some, hs, Deed.d]
      rcases q6 with rfl | rfl | rfl | rfl
      · exact fin [a] rfl (by simp) (by simp) (by simp [ha])
      · exact fin [a, b] rfl (by simp) (by simp) (by simp [ha, hb])
      · exact fin [a, b, c] rfl (by simp) (by simp) (by simp [ha, hb, hc])
      · exact fin [a, b, c, a] rfl (by simp) (by simp) (by simp [ha, hb, hc])
    rcases q3 with rfl | rfl | rfl
    · exact key 2 (by simp) rfl
    · exact key 3 (by simp) rfl
    · exact key 5 (by simp) rfl
  · have key : ∀ (s : String) (t : Bool), oidx (.lst [.str "zero", .str "ones", .str "not", .str "and", .str "or", .str "xor", .str "shift", .str "minus", .str "add", .str "sub"]) (.int d0) = .ok (.str s) →
        oin (.int d0) (.lst [.int 2, .int 6, .int 7]) = .ok (.bl t) → done (b__law_deed [some L, some (.int N), none, none, none, none, none]) = .ok (if d0 < 2 then .tup [.str s] else if t then .tup [.str s, nD a] else .tup [.str s, nD a, nD b]) := fun s t k2 k3 => by
      unfold b__law_deed
      by_cases w : d0 < 2
      · simp [var, i0, i1, i2, m1, m2, g, k2, w]
      · cases t <;> simp [var, i0, i1, i2, m1, m2, g, k2, k3, w]
    have q0 : d0 = 0 ∨ d0 = 1 ∨ d0 = 2 ∨ d0 = 3 ∨ d0 = 4 ∨ d0 = 5 ∨ d0 = 6 ∨ d0 = 7 ∨ d0 = 8 ∨ d0 = 9 := by omega
    clear hL
    rcases q0 with rfl | rfl | rfl | rfl | rfl | rfl | rfl | rfl | rfl | rfl
    · exact ⟨.zero, trivial, key "zero" false rfl rfl⟩
    · exact ⟨.ones, trivial, key "ones" false rfl rfl⟩
    · exact ⟨.inv a, ha, key "not" true rfl rfl⟩
    · exact ⟨.and a b, ⟨ha, hb⟩, key "and" false rfl rfl⟩
    · exact ⟨.or a b, ⟨ha, hb⟩, key "or" false rfl rfl⟩
    · exact ⟨.xor a b, ⟨ha, hb⟩, key "xor" false rfl rfl⟩
    · exact ⟨.shift a, ha, key "shift" true rfl rfl⟩
    · exact ⟨.minus a, ha, key "minus" true rfl rfl⟩
    · exact ⟨.add a b, ⟨ha, hb⟩, key "add" false rfl rfl⟩
    · exact ⟨.sub a b, ⟨ha, hb⟩, key "sub" false rfl rfl⟩
/-! ### what deeds do, bit by bit -/
def at0 (bs : List Nat) (a : Nat) : Nat := bs.getD a 0
def tot (bs : List Nat) (ps : List Nat) : Nat := (ps.map (at0 bs)).sum
def Deed.marked : Deed → Bool
  | .shift _ => true
  | .minus _ => true
  | .add _ _ => true
  | .sub _ _ => true
  | .count _ _ _ => true
  | _ => false
def Deed.top : Deed → Nat
  | .count p _ _ => p
  | _ => 2
/-- the bit of a deed without a mark -/
def Deed.bit0 (bs : List Nat) : Deed → Nat
  | .ones => 1
  | .inv a => 1 - at0 bs a
  | .and a b => if at0 bs a + at0 bs b = 2 then 1 else 0
  | .or a b => if 0 < at0 bs a + at0 bs b then 1 else 0
  | .xor a b => if at0 bs a = at0 bs b then 0 else 1
  | _ => 0
/-- the bit and the next mark of a deed with a mark -/
def Deed.bit1 (bs : List Nat) (m : Nat) : Deed → Nat
  | .shift _ => m
  | .minus a => (at0 bs a + m) % 2
  | .add a b => (at0 bs a + at0 bs b + m) % 2
  | .sub a b => (at0 bs a + at0 bs b + m) % 2
  | .count _ r _ => if m = r then 1 else 0
  | _ => 0
def Deed.next (bs : List Nat) (m : Nat) : Deed → Nat
  | .shift a => at0 bs a
  | .minus a => if 1 ≤ at0 bs a + m then 1 else 0
  | .add a b => if 2 ≤ at0 bs a + at0 bs b + m then 1 else 0
  | .sub a b => if at0 bs a < at0 bs b + m then 1 else 0
  | .count p _ ps => (m + tot bs ps) % p
  | _ => 0
def Bits (bs : List Nat) : Prop := ∀ b ∈ bs, b = 0 ∨ b = 1
theorem at0_01 {bs : List Nat} (h : Bits bs) (a : Nat) : at0 bs a = 0 ∨ at0 bs a = 1 := by
  unfold at0
  by_cases q : a < bs.length
  · simp only [List.getD_eq_getElem?_getD, List.getElem?_eq_getElem q, Option.getD_some]
    exact h _ (List.getElem_mem q)
  · rw [List.getD_eq_getElem?_getD, List.getElem?_eq_none (by omega)]
    exact .inl rfl
theorem bits_at {bs : List Nat} {a : Nat} (h : a < bs.length) : oidx (.lst (bs.map nD)) (nD a) = .ok (nD (at0 bs a)) := by
  refine oidx_l (k := a) ?_
  unfold at0
  simp [h]
theorem nat_eq (a b : Nat) : oeq (nD a) (nD b) = .ok (.bl (decide (a = b))) := by
  unfold nD
  rw [oeq_ii]
  congr 2
  rw [Bool.eq_iff_iff]
  simp only [beq_iff_eq, decide_eq_true_eq]
  exact Int.ofNat_inj
/-! the law's own bit -/
theorem ixt1 {a b : D} {r : List D} : oidx (.tup (a :: b :: r)) (.int 1) = .ok b := oidx_t (k := 1) rfl
theorem ixt0 {a : D} {r : List D} : oidx (.tup (a :: r)) (.int 0) = .ok a := oidx_t (k := 0) rfl
theorem ixt2 {a b c : D} {r : List D} : oidx (.tup (a :: b :: c :: r)) (.int 2) = .ok c := oidx_t (k := 2) rfl
theorem ixt3 {a b c d : D} {r : List D} : oidx (.tup (a :: b :: c :: d :: r)) (.int 3) = .ok d := oidx_t (k := 3) rfl
theorem nD_0 : nD 0 = .int 0 := rfl
theorem nD_1 : nD 1 = .int 1 := rfl
theorem str_eq (a b : String) : oeq (.str a) (.str b) = .ok (.bl (a == b)) := rfl
theorem nadd (a b : Nat) : oadd (nD a) (nD b) = .ok (nD (a + b)) := by
  unfold nD
  rw [oadd_ii]
  rfl
theorem nmod (a : Nat) {p : Nat} (h : 0 < p) : omod (nD a) (nD p) = .ok (nD (a % p)) := by
  unfold nD
  rw [omod_ii (by omega)]
  rfl
theorem bint_n (a : Nat) : bint (nD a) = .ok (nD a) := rfl
theorem bint_p (b : Bool) : bint (.bl b) = .ok (nD (if b then 1 else 0)) := by cases b <;> rfl
theorem tot_snoc (bs : List Nat) (ps : List Nat) (a : Nat) : tot bs (ps ++ [a]) = tot bs ps + at0 bs a := by
  unfold tot
  rw [List.map_append, List.sum_append]
  simp
/-! ### all deeds of a row, at one place -/
abbrev St := List Nat × List Nat
def stp (ms : List Nat) (s : St) (x : Deed) : St :=
  if x.marked then (s.1 ++ [x.bit1 s.1 (ms.getD s.2.length 0)], s.2 ++ [x.next s.1 (ms.getD s.2.length 0)]) else (s.1 ++ [x.bit0 s.1], s.2)
def runD (ms bs : List Nat) (xs : List Deed) : St := xs.foldl (stp ms) (bs, [])
def tops (xs : List Deed) : List Nat := (xs.filter Deed.marked).map Deed.top
/-- marks below their numbers -/
def Fit : List Nat → List Nat → Prop
  | [], [] => True
  | m :: ms, t :: ts => m < t ∧ Fit ms ts
  | _, _ => False
theorem Fit.len : ∀ {ms ts : List Nat}, Fit ms ts → ms.length = ts.length
  | [], [], _ => rfl
  | m :: ms, t :: ts, h => congrArg (· + 1) (Fit.len h.2)
  | [], _ :: _, h => h.elim
  | _ :: _, [], h => h.elim
theorem Fit.at : ∀ {ms ts : List Nat} {j t : Nat}, Fit ms ts → ts[j]? = some t → ms.getD j 0 < t
  | [], [], _, _, _, h => by simp at h
  | m :: ms, t :: ts, 0, _, h, e => by
    simp at e
    subst e
    exact h.1
  | m :: ms, t :: ts, j + 1, _, h, e => by
    simp at e
    simpa using Fit.at (j := j) h.2 e
  | [], _ :: _, _, _, h, _ => h.elim
  | _ :: _, [], _, _, h, _ => h.elim
theorem Fit.snoc : ∀ {ms ts : List Nat} {m t : Nat}, Fit ms ts → m < t → Fit (ms ++ [m]) (ts ++ [t])
  | [], [], _, _, _, h => ⟨h, trivial⟩
  | m :: ms, t :: ts, _, _, h, h2 => ⟨h.1, Fit.snoc h.2 h2⟩
  | [], _ :: _, _, _, h, _ => h.elim
  | _ :: _, [], _, _, h, _ => h.elim
/-- the deeds' values stand ahead -/
def Row (n : Nat) (xs : List Deed) : Prop := ∀ k, (h : k < xs.length) → xs[k].ok (n + k)
theorem next_lt {bs : List Nat} (hb : Bits bs) {x : Deed} (hm : x.marked = true) {n : Nat} (hx : x.ok n) (m : Nat) : x.next bs m < x.top := by
  cases x with
  | shift a =>
    show at0 bs a < 2
    rcases at0_01 hb a with e | e <;> omega
  | minus a =>
    show (if 1 ≤ at0 bs a + m then 1 else 0) < 2
    split <;> omega
  | add a b =>
    show (if 2 ≤ at0 bs a + at0 bs b + m then 1 else 0) < 2
    split <;> omega
  | sub a b =>
    show (if at0 bs a < at0 bs b + m then 1 else 0) < 2
    split <;> omega
  | count p r ps =>
    obtain ⟨hp, hr, _⟩ := hx
    exact Nat.mod_lt _ (by omega)
  | _ => cases hm
theorem if01 {c : Prop} [Decidable c] : (if c then 1 else 0 : Nat) = 0 ∨ (if c then 1 else 0 : Nat) = 1 := by split <;> simp
theorem if01' {c : Prop} [Decidable c] : (if c then 0 else 1 : Nat) = 0 ∨ (if c then 0 else 1 : Nat) = 1 := by split <;> simp
theorem mod01 (a : Nat) : a % 2 = 0 ∨ a % 2 = 1 := by omega
theorem bit0_01 {bs : List Nat} (hb : Bits bs) (x : Deed) : x.bit0 bs = 0 ∨ x.bit0 bs = 1 := by
  cases x with
  | ones => exact .inr rfl
  | inv a =>
    show 1 - at0 bs a = 0 ∨ 1 - at0 bs a = 1
    omega
  | and a b => exact if01
  | or a b => exact if01
  | xor a b => exact if01'
  | _ => exact .inl rfl
theorem bit1_01 {bs : List Nat} (hb : Bits bs) (x : Deed) {m : Nat} (hm : m < x.top) : x.bit1 bs m = 0 ∨ x.bit1 bs m = 1 := by
  cases x with
  | shift a =>
    have h : m < 2 := hm
    show m = 0 ∨ m = 1
    omega
  | minus a => exact mod01 _
  | add a b => exact mod01 _
  | sub a b => exact mod01 _
  | count p r ps => exact if01
  | _ => exact .inl rfl
/-- where one stands behind k deeds -/
structure At (n : Nat) (ms : List Nat) (xs : List Deed) (k : Nat) (s : St) : Prop where
  bits : Bits s.1
  len : s.1.length = n + k
  fit : Fit s.2 (tops (xs.take k))
  eq : s = (xs.take k).foldl (stp ms) (s.1.take n, [])
theorem tops_snoc (xs : List Deed) (x : Deed) : tops (xs ++ [x]) = if x.marked then tops xs ++ [x.top] else tops xs := by
  unfold tops
  rw [List.filter_append, List.map_append]
  cases h : x.marked <;> simp [h]
theorem tops_at {xs : List Deed} {k : Nat} (h : k < xs.length) (hm : xs[k].marked = true) : (tops xs)[(tops (xs.take k)).length]? = some xs[k].top := by
  have e : xs = xs.take k ++ (xs[k] :: xs.drop (k + 1)) := by
    rw [← List.drop_eq_getElem_cons h, List.take_append_drop]
  have e2 : tops xs = tops (xs.take k) ++ (xs[k].top :: tops (xs.drop (k + 1))) := by
    unfold tops
    conv => lhs; rw [e]
    rw [List.filter_append, List.map_append, List.filter_cons, hm]
    rfl
  rw [e2, List.getElem?_append_right (Nat.le_refl _), Nat.sub_self]
  rfl
theorem At.step {n : Nat} {ms : List Nat} {xs : List Deed} {k : Nat} {s : St} (A : At n ms xs k s) (hf : Fit ms (tops xs)) (hr : Row n xs) (hk : k < xs.length) : At n ms xs (k + 1) (stp ms s xs[k]) := by
  have ht : xs.take (k + 1) = xs.take k ++ [xs[k]] := by
    rw [List.take_add_one]
    simp [hk]
  have hl := A.fit.len
  have hx := hr k hk
  rw [← A.len] at hx
  cases hm : xs[k].marked with
  | true =>
    have hlt : ms.getD s.2.length 0 < xs[k].top := by
      rw [hl]
      exact hf.at (tops_at hk hm)
    have e : stp ms s xs[k] = (s.1 ++ [xs[k].bit1 s.1 (ms.getD s.2.length 0)], s.2 ++ [xs[k].next s.1 (ms.getD s.2.length 0)]) := by
      unfold stp
      rw [hm]
      rfl
    refine ⟨?_, ?_, ?_, ?_⟩
    · rw [e]
      intro b hb
      rcases List.mem_append.mp hb with hb | hb
      · exact A.bits b hb
      · rw [List.mem_singleton.mp hb]
        exact bit1_01 A.bits _ hlt
    · rw [e]
      simp [A.len]
      omega
    · rw [e, ht, tops_snoc, hm]
      exact A.fit.snoc (next_lt A.bits hm hx _)
    · have e2 : (stp ms s xs[k]).1.take n = s.1.take n := by
        rw [e]
        exact List.take_append_of_le_length (by rw [A.len]; omega)
      rw [e2, ht, List.foldl_append, ← A.eq]
      rfl
  | false =>
    have e : stp ms s xs[k] = (s.1 ++ [xs[k].bit0 s.1], s.2) := by
      unfold stp
      rw [hm]
      rfl
    refine ⟨?_, ?_, ?_, ?_⟩
    · rw [e]
      intro b hb
      rcases List.mem_append.mp hb with hb | hb
      · exact A.bits b hb
      · rw [List.mem_singleton.mp hb]
        exact bit0_01 A.bits _
    · rw [e]
      simp [A.len]
      omega
    · rw [e, ht, tops_snoc, hm]
      exact A.fit
    · have e2 : (stp ms s xs[k]).1.take n = s.1.take n := by
        rw [e]
        exact List.take_append_of_le_length (by rw [A.len]; omega)
      rw [e2, ht, List.foldl_append, ← A.eq]
      rfl

def Deed.name : Deed → String
  | .zero => "zero"
  | .ones => "ones"
  | .inv _ => "not"
  | .and _ _ => "and"
  | .or _ _ => "or"
  | .xor _ _ => "xor"
  | .shift _ => "shift"
  | .minus _ => "minus"
  | .add _ _ => "add"
  | .sub _ _ => "sub"
  | .count _ _ _ => "count"
theorem deed_name (x : Deed) : oidx x.d (.int 0) = .ok (.str x.name) := by cases x <;> exact ixt0
theorem marked_in (x : Deed) : oin (.str x.name) (.lst [.str "shift", .str "minus", .str "add", .str "sub", .str "count"]) = .ok (.bl x.marked) := by cases x <;> rfl
theorem callI_ok {f : List D → Res D} {a : AM} {e : Env} {ds : List D} {d : D} (h1 : a e = .ok ds) (h2 : f ds = .ok d) (h3 : imm d = true) : callI f a e = .ok d := by
  unfold callI
  rw [h1, bind_ok, h2]
  simp [h3]
/-- a letter's bits -/
def lb (n letter : Nat) : List Nat := (List.range n).map fun k => letter / 2 ^ k % 2
theorem lb_bits (n letter : Nat) : Bits (lb n letter) := fun b hb => by
  obtain ⟨k, _, rfl⟩ := List.mem_map.mp hb
  omega
theorem lb_len (n letter : Nat) : (lb n letter).length = n := by simp [lb]
theorem bitN (l k : Nat) : (oshr (nD l) (nD k) >>= fun x => oand x (.int 1)) = .ok (nD (l / 2 ^ k % 2)) := by
  unfold nD
  rw [oshr_nat, bind_ok, oand1]
  simp
theorem bitN1 (l k : Nat) : oshr (nD l) (nD k) = .ok (nD (l / 2 ^ k)) := by
  unfold nD
  rw [oshr_nat]
  simp
theorem bitN2 (l : Nat) : oand (nD l) (.int 1) = .ok (nD (l % 2)) := by
  unfold nD
  rw [oand1]
  rfl
theorem At.all {n : Nat} {ms : List Nat} {xs : List Deed} {bs : List Nat} (hb : Bits bs) (hl : bs.length = n) (hf : Fit ms (tops xs)) (hr : Row n xs) : ∀ k, k ≤ xs.length → At n ms xs k ((xs.take k).foldl (stp ms) (bs, []))
  | 0, _ => ⟨hb, by simpa using hl, trivial, by simp [← hl]⟩
  | k + 1, h => by
    have A := At.all hb hl hf hr k (by omega)
    have hk : k < xs.length := h
    have ht : (xs.take (k + 1)).foldl (stp ms) (bs, []) = stp ms ((xs.take k).foldl (stp ms) (bs, [])) xs[k] := by
      rw [List.take_add_one, List.foldl_append]
      simp [hk]
    rw [ht]
    exact A.step hf hr hk
theorem runD_at {n : Nat} {ms : List Nat} {xs : List Deed} (l : Nat) (hf : Fit ms (tops xs)) (hr : Row n xs) (hz : n + xs.length ≤ 1000) : At n ms xs xs.length (runD ms (lb n l) xs) := by
  have A := At.all (lb_bits n l) (lb_len n l) hf hr xs.length (Nat.le_refl _)
  rw [List.take_length] at A
  exact A
end Py.U

namespace Py.U
open PySem
/-! ### the program's side: lanes of one place -/
def eqN (m r : Nat) : Nat := if m = r then 1 else 0
def hot (p m : Nat) : List Nat := (List.range p).map fun r => eqN m r
def Deed.held (m : Nat) : Deed → D
  | .count p _ _ => .lst ((hot p m).map nD)
  | _ => nD m
theorem spread_ok {ms : List Nat} {pl r : Nat} (h : pl < ms.length) : m_spread_mark [.lst [.tup (ms.map nD)], nD pl, nD r, .int 1, .int 1] = .ok (nD (eqN (ms.getD pl 0) r)) := by
  have hx : oidx (.tup (ms.map nD)) (nD pl) = .ok (nD (ms.getD pl 0)) := oidx_t (k := pl) (by simp [h])
  have he := nat_eq (ms.getD pl 0) r
  have hsh : oshl (.int 1) (.int 0) = .ok (.int 1) := rfl
  have hor : oior (.int 0) (.int 1) = .ok (.int 1) := rfl
  unfold m_spread_mark
  rw [show fn 5 8 b_spread_mark [.lst [.tup (ms.map nD)], nD pl, nD r, .int 1, .int 1] = done (b_spread_mark [some (.lst [.tup (ms.map nD)]), some (nD pl), some (nD r), some (.int 1), some (.int 1), none, none, none]) from if_pos rfl]
  unfold b_spread_mark eqN
  generalize ms.getD pl 0 = m at *
  generalize hT : D.tup (ms.map nD) = T at *
  by_cases c : m = r
  · rw [decide_eq_true c] at he
    rw [if_pos c]
    simp [var, ienum, enumL, forL, gtup, gtupL, hx, he, hsh, hor, omul_l, omul_r, nD_1]
  · rw [decide_eq_false c] at he
    rw [if_neg c]
    simp [var, ienum, enumL, forL, gtup, gtupL, hx, he, nD_0]
theorem turned1 : ∀ p : Nat, (p = 2 ∨ p = 3 ∨ p = 5) → ∀ m, m < p → ∀ b, (b = 0 ∨ b = 1) → ∀ (X Y o : D) , lcE (irng1 (un blen (var 2))) [4] (gnm 4) yes (bin oor (bin oand (bin oidx (var 2) (var 4)) (un oinv (var 3))) (bin oand (bin oidx (var 2) (bin osub (var 4) (cst (.int 1)))) (var 3))) [some X, some Y, some (.lst ((hot p m).map nD)), some (nD b), none] = .ok (.lst ((hot p ((m + b) % p)).map nD)) := by
  rintro p (rfl | rfl | rfl) m hm b (rfl | rfl) X Y o
  · have : m = 0 ∨ m = 1 := by omega
    rcases this with rfl | rfl <;> rfl
  · have : m = 0 ∨ m = 1 := by omega
    rcases this with rfl | rfl <;> rfl
  · have : m = 0 ∨ m = 1 ∨ m = 2 := by omega
    rcases this with rfl | rfl | rfl <;> rfl
  · have : m = 0 ∨ m = 1 ∨ m = 2 := by omega
    rcases this with rfl | rfl | rfl <;> rfl
  · have : m = 0 ∨ m = 1 ∨ m = 2 ∨ m = 3 ∨ m = 4 := by omega
    rcases this with rfl | rfl | rfl | rfl | rfl <;> rfl
  · have : m = 0 ∨ m = 1 ∨ m = 2 ∨ m = 3 ∨ m = 4 := by omega
    rcases this with rfl | rfl | rfl | rfl | rfl <;> rfl
/-- what a count's list turns into -/
theorem turned_ok {bs : List Nat} (hb : Bits bs) {p : Nat} (hp : p = 2 ∨ p = 3 ∨ p = 5) : ∀ (ps : List Nat) (m : Nat), m < p → m_turned_counts [.lst ((hot p m).map nD), .lst (ps.map fun a => nD (at0 bs a))] = .ok (.lst ((hot p ((m + tot bs ps) % p)).map nD)) := by
  have loop : ∀ (ps : List Nat) (m : Nat), m < p → ∀ X Y o, ∃ o', forL (forB (gnm 3) (asg (gnm 2) (lcE (irng1 (un blen (var 2))) [4] (gnm 4) yes (bin oor (bin oand (bin oidx (var 2) (var 4)) (un oinv (var 3))) (bin oand (bin oidx (var 2) (bin osub (var 4) (cst (.int 1)))) (var 3)))))) (ps.map fun a => nD (at0 bs a)) [some X, some Y, some (.lst ((hot p m).map nD)), o, none] = .ok (.next [some X, some Y, some (.lst ((hot p ((m + tot bs ps) % p)).map nD)), o', none]) := by
    intro ps
    induction ps with
    | nil =>
      intro m hm X Y o
      refine ⟨o, ?_⟩
      have e : (m + tot bs []) % p = m := by
        show (m + 0) % p = m
        rw [Nat.add_zero, Nat.mod_eq_of_lt hm]
      rw [e]
      rfl
    | cons a ps ih =>
      intro m hm X Y o
      have ht := turned1 p hp m hm (at0 bs a) (at0_01 hb a) X Y X
      have hm2 : (m + at0 bs a) % p < p := Nat.mod_lt _ (by omega)
      obtain ⟨o', h⟩ := ih ((m + at0 bs a) % p) hm2 X Y (some (nD (at0 bs a)))
      refine ⟨o', ?_⟩
      have e : (m + tot bs (a :: ps)) % p = ((m + at0 bs a) % p + tot bs ps) % p := by
        have e1 : tot bs (a :: ps) = at0 bs a + tot bs ps := rfl
        rw [e1, Nat.mod_add_mod, Nat.add_assoc]
      rw [e, List.map_cons]
      have hbody : forB (gnm 3) (asg (gnm 2) (lcE (irng1 (un blen (var 2))) [4] (gnm 4) yes (bin oor (bin oand (bin oidx (var 2) (var 4)) (un oinv (var 3))) (bin oand (bin oidx (var 2) (bin osub (var 4) (cst (.int 1)))) (var 3))))) (nD (at0 bs a)) [some X, some Y, some (.lst ((hot p m).map nD)), o, none] = .ok (.next [some X, some Y, some (.lst ((hot p ((m + at0 bs a) % p)).map nD)), some (nD (at0 bs a)), none]) := by
        rw [forB_eq, gnm_eq, lift_some, bind_ok, asg_eq]
        have ht' : lcE (irng1 (un blen (var 2))) [4] (gnm 4) yes (bin oor (bin oand (bin oidx (var 2) (var 4)) (un oinv (var 3))) (bin oand (bin oidx (var 2) (bin osub (var 4) (cst (.int 1)))) (var 3))) (List.set [some X, some Y, some (.lst ((hot p m).map nD)), o, none] 3 (some (nD (at0 bs a)))) = _ := ht
        rw [ht', bind_ok]
        rfl
      unfold forL
      rw [hbody]
      exact h
  intro ps m hm
  obtain ⟨o', h⟩ := loop ps m hm (.lst ((hot p m).map nD)) (.lst (ps.map fun a => nD (at0 bs a))) none
  unfold m_turned_counts
  rw [fn2]
  unfold b_turned_counts
  generalize (hot p m).map nD = A at *
  generalize (hot p ((m + tot bs ps) % p)).map nD = B at *
  generalize hPS : (ps.map fun a => nD (at0 bs a)) = PS at *
  simp [var, h]

theorem carry_shift {a b m : Nat} : m_carry_step [.str "shift", nD a, nD b, nD m] = .ok (.tup [nD m, nD a]) := rfl
theorem carry_minus {a b m : Nat} (ha : a = 0 ∨ a = 1) (hm : m = 0 ∨ m = 1) : m_carry_step [.str "minus", nD a, nD b, nD m] = .ok (.tup [nD ((a + m) % 2), nD (if 1 ≤ a + m then 1 else 0)]) := by
  rcases ha with rfl | rfl <;> rcases hm with rfl | rfl <;> rfl
theorem carry_add {a b m : Nat} (ha : a = 0 ∨ a = 1) (hb : b = 0 ∨ b = 1) (hm : m = 0 ∨ m = 1) : m_carry_step [.str "add", nD a, nD b, nD m] = .ok (.tup [nD ((a + b + m) % 2), nD (if 2 ≤ a + b + m then 1 else 0)]) := by
  rcases ha with rfl | rfl <;> rcases hb with rfl | rfl <;> rcases hm with rfl | rfl <;> rfl
theorem carry_sub {a b m : Nat} (ha : a = 0 ∨ a = 1) (hb : b = 0 ∨ b = 1) (hm : m = 0 ∨ m = 1) : m_carry_step [.str "sub", nD a, nD b, nD m] = .ok (.tup [nD ((a + b + m) % 2), nD (if a < b + m then 1 else 0)]) := by
  rcases ha with rfl | rfl <;> rcases hb with rfl | rfl <;> rcases hm with rfl | rfl <;> rfl
theorem column_nat {m : Nat} (h : m = 0 ∨ m = 1) : m_mark_column [nD m, .int 1] = .ok (.lst [nD m]) := by
  rcases h with rfl | rfl <;> rfl
theorem column_hot {p m : Nat} (hp : p = 2 ∨ p = 3 ∨ p = 5) (hm : m < p) : m_mark_column [.lst ((hot p m).map nD), .int 1] = .ok (.lst [nD m]) := by
  rcases hp with rfl | rfl | rfl
  · have : m = 0 ∨ m = 1 := by omega
    rcases this with rfl | rfl <;> rfl
  · have : m = 0 ∨ m = 1 ∨ m = 2 := by omega
    rcases this with rfl | rfl | rfl <;> rfl
  · have : m = 0 ∨ m = 1 ∨ m = 2 ∨ m = 3 ∨ m = 4 := by omega
    rcases this with rfl | rfl | rfl | rfl | rfl <;> rfl
/-- a deed's last value -/
def Deed.one : Deed → Nat
  | .inv a => a
  | .and a _ => a
  | .or a _ => a
  | .xor a _ => a
  | .shift a => a
  | .minus a => a
  | .add a _ => a
  | .sub a _ => a
  | _ => 0
def Deed.last : Deed → Nat
  | .inv a => a
  | .and _ b => b
  | .or _ b => b
  | .xor _ b => b
  | .shift a => a
  | .minus a => a
  | .add _ b => b
  | .sub _ b => b
  | _ => 0
def Deed.isCount : Deed → Bool
  | .count _ _ _ => true
  | _ => false
theorem carry_ok {bs : List Nat} (hb : Bits bs) {x : Deed} (hm : x.marked = true) (hc : x.isCount = false) {m : Nat} (h : m < x.top) : m_carry_step [.str x.name, nD (at0 bs x.one), nD (at0 bs x.last), nD m] = .ok (.tup [nD (x.bit1 bs m), nD (x.next bs m)]) := by
  cases x with
  | shift a => exact carry_shift
  | minus a =>
    have h2 : m < 2 := h
    exact carry_minus (at0_01 hb a) (by omega)
  | add a b =>
    have h2 : m < 2 := h
    exact carry_add (at0_01 hb a) (at0_01 hb b) (by omega)
  | sub a b =>
    have h2 : m < 2 := h
    exact carry_sub (at0_01 hb a) (at0_01 hb b) (by omega)
  | count p r ps => cases hc
  | _ => cases hm

/-! ### what is held -/
theorem marked_tup (x : Deed) : oin (.str x.name) (.tup tup_MARKED) = .ok (.bl x.marked) := by cases x <;> rfl
theorem compL_filter {f : D → Res (Option D)} {p : Deed → Bool} : ∀ {xs : List Deed}, (∀ x ∈ xs, f x.d = .ok (if p x then some x.d else none)) → compL f (xs.map Deed.d) = .ok ((xs.filter p).map Deed.d)
  | [], _ => rfl
  | x :: xs, q => by
    rw [List.map_cons]
    unfold compL
    rw [q x List.mem_cons_self, compL_filter fun y hy => q y (List.mem_cons_of_mem _ hy)]
    cases h : p x <;> simp [h]
def rowD (n : Nat) (xs : List Deed) (out : Nat) : D := .ins "Row" [("inputs", nD n), ("deeds", .tup (xs.map Deed.d)), ("out", nD out)]
theorem row_inputs (n : Nat) (xs : List Deed) (out : Nat) : oattr ["Row"] "inputs" (rowD n xs out) = .ok (nD n) := rfl
theorem row_deeds (n : Nat) (xs : List Deed) (out : Nat) : oattr ["Row"] "deeds" (rowD n xs out) = .ok (.tup (xs.map Deed.d)) := rfl
theorem mark_deeds_ok {n out : Nat} {xs : List Deed} (hz : xs.length ≤ 1000) : m_mark_deeds [rowD n xs out] = .ok (.lst ((xs.filter Deed.marked).map Deed.d)) := by
  have hd := row_deeds n xs out
  unfold m_mark_deeds
  rw [fn1]
  unfold b_mark_deeds
  generalize rowD n xs out = R at *
  have hl : lcE (iseq (un (oattr ["Row"] "deeds") (var 0))) [1] (gnm 1) (tst (bin oin (bin oidx (var 1) (cst (.int 0))) (cst (.tup tup_MARKED)))) (var 1) [some R, none] = .ok (.lst ((xs.filter Deed.marked).map Deed.d)) := by
    unfold lcE
    have hi : iseq (un (oattr ["Row"] "deeds") (var 0)) [some R, none] = .ok (xs.map Deed.d) := by simp [var, hd]
    rw [hi]
    have q : compL (compF [1] (gnm 1) (tst (bin oin (bin oidx (var 1) (cst (.int 0))) (cst (.tup tup_MARKED)))) (var 1) [some R, none]) (xs.map Deed.d) = .ok ((xs.filter Deed.marked).map Deed.d) := compL_filter fun x _ => by
      have h1 := deed_name x
      have h2 := marked_tup x
      unfold compF
      generalize x.d = X at *
      cases h : x.marked <;> rw [h] at h2 <;> simp [wipe, var, h1, h2]
    rw [bind_ok, q, noexc_ok, bind_ok]
    have hl : (xs.map Deed.d).length ≤ SZ := by
      rw [List.length_map]
      exact le_sz hz
    exact chk_ok hl
  simp [hl]
theorem count_first (x : Deed) : oeq (.str x.name) (.str "count") = .ok (.bl x.isCount) := by cases x <;> rfl
theorem top_count {x : Deed} (h : x.isCount = true) : oidx x.d (.int 1) = .ok (nD x.top) := by
  cases x with
  | count p r ps => exact ixt1
  | _ => cases h
theorem top_plain {x : Deed} (h : x.isCount = false) : x.top = 2 := by
  cases x with
  | count p r ps => cases h
  | _ => rfl
theorem limits_ok {n out : Nat} {xs : List Deed} (hz : xs.length ≤ 1000) : m_mark_limits [rowD n xs out] = .ok (.lst ((tops xs).map nD)) := by
  have hd := mark_deeds_ok (n := n) (out := out) hz
  unfold m_mark_limits
  rw [fn1]
  unfold b_mark_limits tops
  generalize rowD n xs out = R at *
  have hlen : (xs.filter Deed.marked).length ≤ SZ := Nat.le_trans (List.length_filter_le _ _) (le_sz hz)
  generalize xs.filter Deed.marked = ys at *
  have hl : lcE (iseq (call m_mark_deeds (argC (var 0) argN))) [1] (gnm 1) yes (ifE (tst (bin oeq (bin oidx (var 1) (cst (.int 0))) (cst (.str "count")))) (bin oidx (var 1) (cst (.int 1))) (cst (.int 2))) [some R, none] = .ok (.lst ((ys.map Deed.top).map nD)) := by
    rw [List.map_map]
    refine lc_mapI (k := Deed.d) (by simp [var, hd]) hlen fun x _ => ?_
    have h1 := deed_name x
    have h2 := count_first x
    show ∃ e1, _ ∧ _ = Res.ok (nD x.top)
    cases h : x.isCount with
    | true =>
      have h3 := top_count h
      rw [h] at h2
      generalize nD x.top = t at *
      generalize x.d = X at *
      exact ⟨_, rfl, by simp only [wipe]; simp [var, h1, h2, h3]⟩
    | false =>
      have h3 := top_plain h
      rw [h] at h2
      rw [h3]
      generalize x.d = X at *
      exact ⟨_, rfl, by simp only [wipe]; simp [var, h1, h2]; rfl⟩
  simp [hl]

def heldL (ys : List Deed) (ms : List Nat) (k : Nat) : List D := (List.range k).map fun i => (ys.getD i .zero).held (ms.getD i 0)
theorem heldL_snoc (ys : List Deed) (ms : List Nat) (k : Nat) : heldL ys ms (k + 1) = heldL ys ms k ++ [(ys.getD k .zero).held (ms.getD k 0)] := by
  unfold heldL
  rw [List.range_succ, List.map_append]
  rfl
theorem enum_at {ds : List D} {k i : Nat} (h : i < (enumL k ds).length) (h2 : i < ds.length) : (enumL k ds)[i] = .tup [.int ((k + i : Nat) : Int), ds[i]] := by
  induction ds generalizing k i with
  | nil => simp at h2
  | cons d ds ih =>
    cases i with
    | zero => rfl
    | succ i =>
      simp only [enumL, List.getElem_cons_succ]
      rw [ih (k := k + 1) _ (by simpa using h2)]
      rw [show k + 1 + i = k + (i + 1) by omega]
theorem enum_len : ∀ (ds : List D) (k : Nat), (enumL k ds).length = ds.length
  | [], _ => rfl
  | d :: ds, k => by
    simp only [enumL, List.length_cons]
    rw [enum_len ds]
theorem held_nat {x : Deed} (h : x.isCount = false) (m : Nat) : x.held m = nD m := by
  cases x with
  | count p r ps => cases h
  | _ => rfl
theorem held_count {x : Deed} (h : x.isCount = true) (m : Nat) : x.held m = .lst ((hot x.top m).map nD) := by
  cases x with
  | count p r ps => rfl
  | _ => cases h
theorem eqN1 {m : Nat} (h : m < 2) : eqN m 1 = m := by
  unfold eqN
  split <;> omega
def heldB : SM := (Py.ite (tst (bin oeq (bin oidx (var 6) (cst (.int 0))) (cst (.str "count")))) (app 4 (lcE (irng1 (bin oidx (var 6) (cst (.int 1)))) [7] (gnm 7) yes (call m_spread_mark (argC (var 1) (argC (var 5) (argC (var 7) (argC (var 2) (argC (var 3) argN)))))))) (app 4 (call m_spread_mark (argC (var 1) (argC (var 5) (argC (cst (.int 1)) (argC (var 2) (argC (var 3) argN))))))))
theorem held_body {ms : List Nat} {x : Deed} {R : D} {L : List D} {pl : Nat} (hp : pl < ms.length) (ht : x.top ≤ 5) (hm : ms.getD pl 0 < x.top) (hz : L.length < SZ) (o : Option D) : heldB [some R, some (.lst [.tup (ms.map nD)]), some (.int 1), some (.int 1), some (.lst L), some (nD pl), some x.d, o] = .ok (.next [some R, some (.lst [.tup (ms.map nD)]), some (.int 1), some (.int 1), some (.lst (L ++ [x.held (ms.getD pl 0)])), some (nD pl), some x.d, o]) := by
  have h1 := deed_name x
  have h2 := count_first x
  unfold heldB
  cases h : x.isCount with
  | false =>
    have hs := spread_ok (r := 1) hp
    have e1 : ms.getD pl 0 < 2 := by
      rw [top_plain h] at hm
      exact hm
    rw [eqN1 e1] at hs
    rw [h] at h2
    rw [held_nat h]
    change m_spread_mark [_, _, .int 1, _, _] = _ at hs
    generalize nD (ms.getD pl 0) = q at *
    generalize nD pl = P at *
    generalize D.tup (ms.map nD) = T at *
    generalize x.d = X at *
    simp [var, h1, h2, hs, hz]
  | true =>
    have h3 := top_count h
    rw [h] at h2
    rw [held_count h]
    have hr : irng1 (bin oidx (var 6) (cst (.int 1))) [some R, some (.lst [.tup (ms.map nD)]), some (.int 1), some (.int 1), some (.lst L), some (nD pl), some x.d, o] = .ok ((List.range x.top).map fun i => .int ((i : Nat) : Int)) := irng1_nat (by simp [var, h3]; rfl) (rng_lt (by omega))
    have hc : lcE (irng1 (bin oidx (var 6) (cst (.int 1)))) [7] (gnm 7) yes (call m_spread_mark (argC (var 1) (argC (var 5) (argC (var 7) (argC (var 2) (argC (var 3) argN)))))) [some R, some (.lst [.tup (ms.map nD)]), some (.int 1), some (.int 1), some (.lst L), some (nD pl), some x.d, o] = .ok (.lst ((hot x.top (ms.getD pl 0)).map nD)) := by
      unfold hot
      rw [List.map_map]
      refine lc_mapI (k := fun i => .int ((i : Nat) : Int)) hr (by rw [List.length_range]; exact le_sz (by omega)) fun r _ => ?_
      have hs := spread_ok (r := r) hp
      show ∃ e1, _ ∧ _ = Res.ok (nD (eqN (ms.getD pl 0) r))
      change m_spread_mark [_, _, .int (r : Int), _, _] = _ at hs
      generalize nD (eqN (ms.getD pl 0) r) = q at *
      generalize (r : Int) = z at *
      generalize nD pl = P at *
      generalize D.tup (ms.map nD) = T at *
      exact ⟨_, rfl, by simp only [wipe]; simp [var, hs]⟩
    generalize D.lst ((hot x.top (ms.getD pl 0)).map nD) = q at *
    generalize nD pl = P at *
    generalize D.tup (ms.map nD) = T at *
    generalize x.d = X at *
    simp [var, h1, h2, hc, hz]
theorem fit_top {ms ts : List Nat} (h : Fit ms ts) {k : Nat} (hk : k < ts.length) : ms.getD k 0 < ts[k] := h.at (by simp [hk])
theorem held_ok {n out : Nat} {ms : List Nat} {xs : List Deed} (hz : xs.length ≤ 1000) (hf : Fit ms (tops xs)) (h5 : ∀ x ∈ xs, x.top ≤ 5) : m_held_lanes [rowD n xs out, .lst [.tup (ms.map nD)], .int 1, .int 1] = .ok (.lst (heldL (xs.filter Deed.marked) ms (xs.filter Deed.marked).length)) := by
  have hd := mark_deeds_ok (n := n) (out := out) hz
  have hlen : (xs.filter Deed.marked).length ≤ 1000 := Nat.le_trans (List.length_filter_le _ _) hz
  have hl2 := hf.len
  unfold tops at hf hl2
  rw [List.length_map] at hl2
  have h5' : ∀ x ∈ xs.filter Deed.marked, x.top ≤ 5 := fun x hx => h5 x (List.mem_filter.mp hx).1
  unfold m_held_lanes
  rw [fn4]
  generalize rowD n xs out = R at *
  generalize xs.filter Deed.marked = ys at *
  have q := forL_inv (b := forB (gtup [(gnm 5), (gnm 6)]) heldB) (xs := enumL 0 (ys.map Deed.d)) (e := [some R, some (.lst [.tup (ms.map nD)]), some (.int 1), some (.int 1), some (.lst []), none, none, none])
    (fun k e => ∃ o5 o6, e = [some R, some (.lst [.tup (ms.map nD)]), some (.int 1), some (.int 1), some (.lst (heldL ys ms k)), o5, o6, none]) 0 ⟨none, none, rfl⟩ (by
      rintro i e hi ⟨o5, o6, rfl⟩
      have hi2 : i < ys.length := by
        rw [enum_len, List.length_map] at hi
        exact hi
      rw [Nat.zero_add, enum_at hi (by simpa using hi2), List.getElem_map, heldL_snoc, Nat.zero_add]
      have e2 : ys.getD i .zero = ys[i] := by simp [hi2]
      rw [e2]
      refine ⟨_, ?_, some (nD i), some ys[i].d, rfl⟩
      have hlt : ms.getD i 0 < ys[i].top := by
        have := fit_top hf (k := i) (by simpa using hi2)
        simpa using this
      have hL : (heldL ys ms i).length < SZ := by
        unfold heldL
        rw [List.length_map, List.length_range]
        exact Nat.lt_trans (show i < 1001 by omega) (by decide)
      exact held_body (R := R) (by omega) (h5' _ (List.getElem_mem hi2)) hlt hL none)
  obtain ⟨e', h1, o5, o6, rfl⟩ := q
  rw [enum_len, List.length_map, Nat.zero_add] at h1
  show done (seq (asg (gnm 4) (lstE argN)) (seq (for_ (ienum (call m_mark_deeds (argC (var 0) argN))) (gtup [(gnm 5), (gnm 6)]) heldB) (ret (var 4))) [some R, some (.lst [.tup (ms.map nD)]), some (.int 1), some (.int 1), none, none, none, none]) = _
  have hi : ∀ a b c d e f g, ienum (call m_mark_deeds (argC (var 0) argN)) [some R, a, b, c, d, e, f, g] = .ok (enumL 0 (ys.map Deed.d)) := fun a b c d e f g => by
    unfold ienum
    show (iseq _ _ >>= _) = _
    simp [var, hd]
  simp [var, hi, h1]

end Py.U

namespace Py.U
open PySem
def runB : SM := (seq (asg (gnm 7) (bin oidx (var 6) (cst (.int 0))))
  (seq (Py.ite (tst (bin oeq (var 7) (cst (.str "and")))) (asg (gnm 8) (bin oand (bin oidx (var 4) (bin oidx (var 6) (cst (.int 1)))) (bin oidx (var 4) (bin oidx (var 6) (cst (.int 2)))))) (Py.ite (tst (bin oeq (var 7) (cst (.str "or")))) (asg (gnm 8) (bin oor (bin oidx (var 4) (bin oidx (var 6) (cst (.int 1)))) (bin oidx (var 4) (bin oidx (var 6) (cst (.int 2)))))) (Py.ite (tst (bin oeq (var 7) (cst (.str "xor")))) (asg (gnm 8) (bin oxor (bin oidx (var 4) (bin oidx (var 6) (cst (.int 1)))) (bin oidx (var 4) (bin oidx (var 6) (cst (.int 2)))))) (Py.ite (tst (bin oeq (var 7) (cst (.str "not")))) (asg (gnm 8) (bin oxor (var 3) (bin oidx (var 4) (bin oidx (var 6) (cst (.int 1)))))) (Py.ite (tst (bin oeq (var 7) (cst (.str "zero")))) (asg (gnm 8) (cst (.int 0))) (Py.ite (tst (bin oeq (var 7) (cst (.str "ones")))) (asg (gnm 8) (var 3)) (Py.ite (tst (bin oeq (var 7) (cst (.str "count")))) (seq (asg (gnm 9) (bin oidx (var 2) (un blen (var 5))))
  (seq (asg (gnm 8) (bin oidx (var 9) (bin oidx (var 6) (cst (.int 2)))))
  (app 5 (call m_turned_counts (argC (var 9) (argC (lcE (iseq (bin oidx (var 6) (cst (.int 3)))) [11] (gnm 11) yes (bin oidx (var 4) (var 11))) argN)))))) (seq (asg (gtup [(gnm 8), (gnm 10)]) (call m_carry_step (argC (var 7) (argC (bin oidx (var 4) (bin oidx (var 6) (cst (.int 1)))) (argC (bin oidx (var 4) (bin oidx (var 6) (un oneg (cst (.int 1))))) (argC (bin oidx (var 2) (un blen (var 5))) argN))))))
  (app 5 (var 10))))))))))
  (app 4 (var 8))))
theorem bit_and {a b : Nat} (ha : a = 0 ∨ a = 1) (hb : b = 0 ∨ b = 1) : oand (nD a) (nD b) = .ok (nD (if a + b = 2 then 1 else 0)) := by
  rcases ha with rfl | rfl <;> rcases hb with rfl | rfl <;> rfl
theorem bit_or {a b : Nat} (ha : a = 0 ∨ a = 1) (hb : b = 0 ∨ b = 1) : oor (nD a) (nD b) = .ok (nD (if 0 < a + b then 1 else 0)) := by
  rcases ha with rfl | rfl <;> rcases hb with rfl | rfl <;> rfl
theorem bit_xor {a b : Nat} (ha : a = 0 ∨ a = 1) (hb : b = 0 ∨ b = 1) : oxor (nD a) (nD b) = .ok (nD (if a = b then 0 else 1)) := by
  rcases ha with rfl | rfl <;> rcases hb with rfl | rfl <;> rfl
theorem bit_inv {a : Nat} (ha : a = 0 ∨ a = 1) : oxor (.int 1) (nD a) = .ok (nD (1 - a)) := by
  rcases ha with rfl | rfl <;> rfl
theorem run_plain {bs : List Nat} (hb : Bits bs) {x : Deed} (hm : x.marked = false) (hx : x.ok bs.length) {R B HL : D} {Af : List D} (hz : (bs.map nD).length < SZ) (o7 o8 o9 o10 o11 : Option D) :
    runB [some R, some B, some HL, some (.int 1), some (.lst (bs.map nD)), some (.lst Af), some x.d, o7, o8, o9, o10, o11] = .ok (.next [some R, some B, some HL, some (.int 1), some (.lst ((bs ++ [x.bit0 bs]).map nD)), some (.lst Af), some x.d, some (.str x.name), some (nD (x.bit0 bs)), o9, o10, o11]) := by
  have hz' : bs.length < SZ := by simpa using hz
  rw [List.map_append]
  unfold runB
  cases x with
  | zero => simp [var, Deed.d, Deed.name, ixt0, str_eq, Deed.bit0, nD_0, hz']
  | ones => simp [var, Deed.d, Deed.name, ixt0, str_eq, Deed.bit0, nD_1, hz']
  | inv a =>
    have h := bits_at (bs := bs) hx
    have q := bit_inv (at0_01 hb a)
    show _ = Res.ok (Fl.next [_, _, _, _, some (.lst (_ ++ [nD (1 - at0 bs a)])), _, _, _, some (nD (1 - at0 bs a)), _, _, _])
    generalize nD (1 - at0 bs a) = u at *
    generalize nD (at0 bs a) = v at *
    generalize bs.map nD = L at *
    simp [var, Deed.d, Deed.name, ixt0, ixt1, str_eq, h, q, hz]
  | and a b =>
    have h := bits_at (bs := bs) hx.1
    have h' := bits_at (bs := bs) hx.2
    have q := bit_and (at0_01 hb a) (at0_01 hb b)
    show _ = Res.ok (Fl.next [_, _, _, _, some (.lst (_ ++ [nD (if at0 bs a + at0 bs b = 2 then 1 else 0)])), _, _, _, some (nD (if at0 bs a + at0 bs b = 2 then 1 else 0)), _, _, _])
    generalize nD (if at0 bs a + at0 bs b = 2 then 1 else 0) = u at *
    generalize nD (at0 bs a) = v at *
    generalize nD (at0 bs b) = w at *
    generalize bs.map nD = L at *
    simp [var, Deed.d, Deed.name, ixt0, ixt1, ixt2, str_eq, h, h', q, hz]
  | or a b =>
    have h := bits_at (bs := bs) hx.1
    have h' := bits_at (bs := bs) hx.2
    have q := bit_or (at0_01 hb a) (at0_01 hb b)
    show _ = Res.ok (Fl.next [_, _, _, _, some (.lst (_ ++ [nD (if 0 < at0 bs a + at0 bs b then 1 else 0)])), _, _, _, some (nD (if 0 < at0 bs a + at0 bs b then 1 else 0)), _, _, _])
    generalize nD (if 0 < at0 bs a + at0 bs b then 1 else 0) = u at *
    generalize nD (at0 bs a) = v at *
    generalize nD (at0 bs b) = w at *
    generalize bs.map nD = L at *
    simp [var, Deed.d, Deed.name, ixt0, ixt1, ixt2, str_eq, h, h', q, hz]
  | xor a b =>
    have h := bits_at (bs := bs) hx.1
    have h' := bits_at (bs := bs) hx.2
    have q := bit_xor (at0_01 hb a) (at0_01 hb b)
    show _ = Res.ok (Fl.next [_, _, _, _, some (.lst (_ ++ [nD (if at0 bs a = at0 bs b then 0 else 1)])), _, _, _, some (nD (if at0 bs a = at0 bs b then 0 else 1)), _, _, _])
    generalize nD (if at0 bs a = at0 bs b then 0 else 1) = u at *
    generalize nD (at0 bs a) = v at *
    generalize nD (at0 bs b) = w at *
    generalize bs.map nD = L at *
    simp [var, Deed.d, Deed.name, ixt0, ixt1, ixt2, str_eq, h, h', q, hz]
  | _ => cases hm

theorem carry_one {x : Deed} (hm : x.marked = true) (hc : x.isCount = false) : oidx x.d (.int 1) = .ok (nD x.one) ∧ oidx x.d (.int (-1)) = .ok (nD x.last) := by
  cases x <;> first | (cases hm; done) | (cases hc; done) | exact ⟨rfl, rfl⟩
theorem carry_in {x : Deed} (hm : x.marked = true) (hc : x.isCount = false) {n : Nat} (hx : x.ok n) : x.one < n ∧ x.last < n := by
  cases x with
  | shift a => exact ⟨hx, hx⟩
  | minus a => exact ⟨hx, hx⟩
  | add a b => exact hx
  | sub a b => exact hx
  | count p r ps => cases hc
  | _ => cases hm
theorem carry_names {x : Deed} (hm : x.marked = true) (hc : x.isCount = false) : ∀ s ∈ ["and", "or", "xor", "not", "zero", "ones", "count"], (x.name == s) = false := by
  cases x with
  | shift a => exact (by decide : ∀ s ∈ ["and", "or", "xor", "not", "zero", "ones", "count"], ("shift" == s) = false)
  | minus a => exact (by decide : ∀ s ∈ ["and", "or", "xor", "not", "zero", "ones", "count"], ("minus" == s) = false)
  | add a b => exact (by decide : ∀ s ∈ ["and", "or", "xor", "not", "zero", "ones", "count"], ("add" == s) = false)
  | sub a b => exact (by decide : ∀ s ∈ ["and", "or", "xor", "not", "zero", "ones", "count"], ("sub" == s) = false)
  | count p r ps => cases hc
  | _ => cases hm
theorem run_carry {bs : List Nat} (hb : Bits bs) {x : Deed} (hm : x.marked = true) (hc : x.isCount = false) (hx : x.ok bs.length) {m : Nat} (hmt : m < x.top) {R B : D} {HL Af : List D} (hat : oidx (.lst HL) (.int (Af.length : Int)) = .ok (x.held m)) (hz : (bs.map nD).length < SZ) (hz2 : Af.length < SZ) (o7 o8 o9 o10 o11 : Option D) :
    runB [some R, some B, some (.lst HL), some (.int 1), some (.lst (bs.map nD)), some (.lst Af), some x.d, o7, o8, o9, o10, o11] = .ok (.next [some R, some B, some (.lst HL), some (.int 1), some (.lst ((bs ++ [x.bit1 bs m]).map nD)), some (.lst (Af ++ [x.held (x.next bs m)])), some x.d, some (.str x.name), some (nD (x.bit1 bs m)), o9, some (nD (x.next bs m)), o11]) := by
  rw [List.map_append, held_nat hc]
  rw [held_nat hc] at hat
  have h0 := deed_name x
  obtain ⟨h1, h2⟩ := carry_one hm hc
  obtain ⟨l1, l2⟩ := carry_in hm hc hx
  have b1 := bits_at l1
  have b2 := bits_at l2
  have hcs := carry_ok hb hm hc hmt
  have nn := carry_names hm hc
  have e1 := nn "and" (by simp)
  have e2 := nn "or" (by simp)
  have e3 := nn "xor" (by simp)
  have e4 := nn "not" (by simp)
  have e5 := nn "zero" (by simp)
  have e6 := nn "ones" (by simp)
  have e7 := nn "count" (by simp)
  have s : ∀ t, oeq (.str x.name) (.str t) = .ok (.bl (x.name == t)) := fun _ => rfl
  unfold runB
  show _ = Res.ok (Fl.next [_, _, _, _, some (.lst (_ ++ [nD (x.bit1 bs m)])), some (.lst (_ ++ [nD (x.next bs m)])), _, _, some (nD (x.bit1 bs m)), _, some (nD (x.next bs m)), _])
  generalize nD (x.bit1 bs m) = u at *
  generalize nD (x.next bs m) = v at *
  generalize nD (at0 bs x.one) = p at *
  generalize nD (at0 bs x.last) = q at *
  generalize nD x.one = i1 at *
  generalize nD x.last = i2 at *
  generalize bs.map nD = L at *
  generalize nD m = M at *
  generalize x.name = nm at *
  generalize x.d = X at *
  simp [var, h0, h1, h2, b1, b2, hcs, hat, s, e1, e2, e3, e4, e5, e6, e7, gtup, gtupL, hz, hz2]

theorem hot_at {p m r : Nat} (h : r < p) : oidx (.lst ((hot p m).map nD)) (nD r) = .ok (nD (eqN m r)) := by
  refine oidx_l (k := r) ?_
  unfold hot
  simp [h]
theorem run_count {bs : List Nat} (hb : Bits bs) {p r : Nat} {ps : List Nat} (hx : (Deed.count p r ps).ok bs.length) {m : Nat} (hmt : m < p) {R B : D} {HL Af : List D} (hat : oidx (.lst HL) (.int (Af.length : Int)) = .ok (.lst ((hot p m).map nD))) (hz : (bs.map nD).length < SZ) (hz2 : Af.length < SZ) (o7 o8 o9 o10 o11 : Option D) :
    runB [some R, some B, some (.lst HL), some (.int 1), some (.lst (bs.map nD)), some (.lst Af), some (Deed.count p r ps).d, o7, o8, o9, o10, o11] = .ok (.next [some R, some B, some (.lst HL), some (.int 1), some (.lst (bs.map nD ++ [nD (eqN m r)])), some (.lst (Af ++ [.lst ((hot p ((m + tot bs ps) % p)).map nD)])), some (Deed.count p r ps).d, some (.str "count"), some (nD (eqN m r)), some (.lst ((hot p m).map nD)), o10, o11]) := by
  obtain ⟨hp, hr, l1, l4, hps⟩ := hx
  have ht := turned_ok hb hp ps m hmt
  have hh := hot_at (m := m) hr
  have s : ∀ t, oeq (.str "count") (.str t) = .ok (.bl ("count" == t)) := fun _ => rfl
  have hc : ∀ a b c d e f g h i k, lcE (iseq (bin oidx (var 6) (cst (.int 3)))) [11] (gnm 11) yes (bin oidx (var 4) (var 11)) [a, b, c, d, some (.lst (bs.map nD)), e, some (Deed.count p r ps).d, f, g, h, i, k] = .ok (.lst (ps.map fun a => nD (at0 bs a))) := fun a b c d e f g h i k => by
    refine lc_mapI (k := nD) (by simp [var, Deed.d, ixt3]) (Nat.le_trans l4 (by decide)) fun y hy => ?_
    have q := bits_at (hps y hy)
    generalize nD (at0 bs y) = u at *
    generalize nD y = z at *
    generalize D.lst (bs.map nD) = L at *
    exact ⟨_, rfl, by simp only [wipe]; simp [var, q]⟩
  have d0 : oidx (Deed.count p r ps).d (.int 0) = .ok (.str "count") := ixt0
  have d2 : oidx (Deed.count p r ps).d (.int 2) = .ok (nD r) := ixt2
  unfold runB
  generalize (hot p ((m + tot bs ps) % p)).map nD = T2 at *
  generalize (hot p m).map nD = T1 at *
  generalize (ps.map fun a => nD (at0 bs a)) = PS at *
  generalize nD (eqN m r) = u at *
  generalize nD r = R2 at *
  generalize bs.map nD = L at *
  generalize (Deed.count p r ps).d = X at *
  simp [var, d0, d2, s, hat, hh, hc, ht, hz, hz2]

theorem deed_cases (x : Deed) : x.marked = false ∨ (x.marked = true ∧ x.isCount = false) ∨ ∃ p r ps, x = .count p r ps := by
  cases x <;> first | exact .inl rfl | exact .inr (.inl ⟨rfl, rfl⟩) | exact .inr (.inr ⟨_, _, _, rfl⟩)
/-- the next marks as they are held -/
def heldN (xs : List Deed) (s : List Nat) : List D := heldL (xs.filter Deed.marked) s s.length
theorem heldL_app (ys : List Deed) (s : List Nat) (v : Nat) : heldL ys (s ++ [v]) (s.length + 1) = heldL ys s s.length ++ [(ys.getD s.length .zero).held v] := by
  rw [heldL_snoc]
  congr 1
  · unfold heldL
    refine List.map_congr_left fun i hi => ?_
    have hi' : i < s.length := by simpa using hi
    have q : (s ++ [v]).getD i 0 = s.getD i 0 := by simp [List.getD_eq_getElem?_getD, List.getElem?_append_left hi']
    rw [q]
  · simp
theorem marked_at {xs : List Deed} {k : Nat} (h : k < xs.length) (hm : xs[k].marked = true) : (xs.filter Deed.marked).getD (tops (xs.take k)).length .zero = xs[k] := by
  have e : xs = xs.take k ++ (xs[k] :: xs.drop (k + 1)) := by
    rw [← List.drop_eq_getElem_cons h, List.take_append_drop]
  have e2 : xs.filter Deed.marked = (xs.take k).filter Deed.marked ++ (xs[k] :: (xs.drop (k + 1)).filter Deed.marked) := by
    conv => lhs; rw [e]
    rw [List.filter_append, List.filter_cons, hm]
    rfl
  have e3 : (tops (xs.take k)).length = ((xs.take k).filter Deed.marked).length := by
    unfold tops
    rw [List.length_map]
  rw [e2, e3, List.getD_eq_getElem?_getD, List.getElem?_append_right (Nat.le_refl _), Nat.sub_self]
  rfl

theorem run_loop {n : Nat} {ms : List Nat} {xs : List Deed} {bs : List Nat} {R B : D} (hb : Bits bs) (hl : bs.length = n) (hf : Fit ms (tops xs)) (hr : Row n xs) (hz : n + xs.length ≤ 1000) :
    ∃ e', forL (forB (gnm 6) runB) (xs.map Deed.d) [some R, some B, some (.lst (heldL (xs.filter Deed.marked) ms (xs.filter Deed.marked).length)), some (.int 1), some (.lst (bs.map nD)), some (.lst []), none, none, none, none, none, none] = .ok (.next e') ∧
      ∃ o6 o7 o8 o9 o10, e' = [some R, some B, some (.lst (heldL (xs.filter Deed.marked) ms (xs.filter Deed.marked).length)), some (.int 1), some (.lst ((runD ms bs xs).1.map nD)), some (.lst (heldL (xs.filter Deed.marked) (runD ms bs xs).2 (runD ms bs xs).2.length)), o6, o7, o8, o9, o10, none] := by
  have hln : (xs.filter Deed.marked).length = ms.length := by
    have := hf.len
    unfold tops at this
    rw [List.length_map] at this
    omega
  have hfl0 : (xs.filter Deed.marked).length ≤ xs.length := List.length_filter_le _ _
  have q := forL_inv (b := forB (gnm 6) runB) (xs := xs.map Deed.d) (e := [some R, some B, some (.lst (heldL (xs.filter Deed.marked) ms (xs.filter Deed.marked).length)), some (.int 1), some (.lst (bs.map nD)), some (.lst []), none, none, none, none, none, none])
    (fun k e => ∃ o6 o7 o8 o9 o10, At n ms xs k ((xs.take k).foldl (stp ms) (bs, [])) ∧ e = [some R, some B, some (.lst (heldL (xs.filter Deed.marked) ms (xs.filter Deed.marked).length)), some (.int 1), some (.lst (((xs.take k).foldl (stp ms) (bs, [])).1.map nD)), some (.lst (heldL (xs.filter Deed.marked) ((xs.take k).foldl (stp ms) (bs, [])).2 ((xs.take k).foldl (stp ms) (bs, [])).2.length)), o6, o7, o8, o9, o10, none]) 0
    ⟨none, none, none, none, none, ⟨hb, by simpa using hl, trivial, by simp [← hl]⟩, rfl⟩ (by
      rintro k e hk ⟨o6, o7, o8, o9, o10, A, rfl⟩
      have hk' : k < xs.length := by simpa using hk
      rw [Nat.zero_add] at A ⊢
      have ht : (xs.take (k + 1)).foldl (stp ms) (bs, []) = stp ms ((xs.take k).foldl (stp ms) (bs, [])) xs[k] := by
        rw [List.take_add_one, List.foldl_append]
        simp [hk']
      have A2 := A.step hf hr hk'
      rw [ht]
      generalize (xs.take k).foldl (stp ms) (bs, []) = s at *
      have hx := hr k hk'
      rw [← A.len] at hx
      have hfl := A.fit.len
      have htl : (tops (xs.take k)).length ≤ k := by
        unfold tops
        rw [List.length_map]
        exact Nat.le_trans (List.length_filter_le _ _) (by rw [List.length_take]; omega)
      have z1 : (s.1.map nD).length < SZ := by
        rw [List.length_map, A.len]
        exact Nat.lt_trans (show n + k < 1001 by omega) (by decide)
      have hlen : (heldL (xs.filter Deed.marked) s.2 s.2.length).length = s.2.length := by simp [heldL]
      have z2 : (heldL (xs.filter Deed.marked) s.2 s.2.length).length < SZ := by
        rw [hlen, hfl]
        exact Nat.lt_trans (show (tops (xs.take k)).length < 1001 by omega) (by decide)
      rw [List.getElem_map]
      cases hm : xs[k].marked with
      | false =>
        have e : stp ms s xs[k] = (s.1 ++ [xs[k].bit0 s.1], s.2) := by
          unfold stp
          rw [hm]
          rfl
        rw [e] at A2 ⊢
        exact ⟨_, run_plain A.bits hm hx z1 o7 o8 o9 o10 none, _, _, _, _, _, A2, rfl⟩
      | true =>
        have hj : s.2.length < ms.length := by
          have := tops_at hk' hm
          have h2 : (tops (xs.take k)).length < (tops xs).length := by
            rcases Nat.lt_or_ge (tops (xs.take k)).length (tops xs).length with h | h
            · exact h
            · rw [List.getElem?_eq_none h] at this
              cases this
          rw [hf.len, hfl]
          exact h2
        have hlt : ms.getD s.2.length 0 < xs[k].top := by
          rw [hfl]
          exact hf.at (tops_at hk' hm)
        have hy : (xs.filter Deed.marked).getD s.2.length .zero = xs[k] := by
          rw [hfl]
          exact marked_at hk' hm
        have hat : oidx (.lst (heldL (xs.filter Deed.marked) ms (xs.filter Deed.marked).length)) (.int ((heldL (xs.filter Deed.marked) s.2 s.2.length).length : Int)) = .ok (xs[k].held (ms.getD s.2.length 0)) := by
          rw [hlen]
          refine oidx_l (k := s.2.length) ?_
          have h3 : s.2.length < (xs.filter Deed.marked).length := by omega
          unfold heldL
          rw [List.getElem?_map, List.getElem?_range h3]
          show some (((xs.filter Deed.marked).getD s.2.length .zero).held _) = _
          rw [hy]
        have e : stp ms s xs[k] = (s.1 ++ [xs[k].bit1 s.1 (ms.getD s.2.length 0)], s.2 ++ [xs[k].next s.1 (ms.getD s.2.length 0)]) := by
          unfold stp
          rw [hm]
          rfl
        rw [e] at A2 ⊢
        have hap : heldL (xs.filter Deed.marked) (s.2 ++ [xs[k].next s.1 (ms.getD s.2.length 0)]) (s.2 ++ [xs[k].next s.1 (ms.getD s.2.length 0)]).length = heldL (xs.filter Deed.marked) s.2 s.2.length ++ [xs[k].held (xs[k].next s.1 (ms.getD s.2.length 0))] := by
          rw [List.length_append, List.length_singleton, heldL_app, hy]
        dsimp only
        rw [hap]
        cases hc : xs[k].isCount with
        | false => exact ⟨_, run_carry A.bits hm hc hx hlt hat z1 z2 o7 o8 o9 o10 none, _, _, _, _, _, A2, rfl⟩
        | true =>
          obtain ⟨p, r, ps, hX⟩ : ∃ p r ps, xs[k] = .count p r ps := by
            rcases deed_cases xs[k] with h | h | h
            · rw [hm] at h
              cases h
            · rw [hc] at h
              exact absurd h.2 (by simp)
            · exact h
          clear hy
          rw [hX] at hx hlt hat A2 ⊢
          have q := run_count A.bits hx hlt (R := R) (B := B) hat z1 z2 o7 o8 o9 o10 none
          refine ⟨_, q, some (Deed.count p r ps).d, some (.str "count"), some (nD (eqN (ms.getD s.2.length 0) r)), some (.lst ((hot p (ms.getD s.2.length 0)).map nD)), o10, A2, ?_⟩
          rw [List.map_append]
          rfl)
  rw [List.length_map, Nat.zero_add, List.take_length] at q
  obtain ⟨e', h1, o6, o7, o8, o9, o10, _, h2⟩ := q
  exact ⟨e', h1, o6, o7, o8, o9, o10, h2⟩

end Py.U

namespace Py.U
open PySem
theorem runD_fit {n : Nat} {ms : List Nat} {xs : List Deed} (l : Nat) (hf : Fit ms (tops xs)) (hr : Row n xs) (hz : n + xs.length ≤ 1000) : Fit (runD ms (lb n l) xs).2 (tops xs) := by
  have A := runD_at l hf hr hz
  have h := A.fit
  rw [List.take_length] at h
  exact h
theorem tops_len (xs : List Deed) : (tops xs).length ≤ xs.length := by
  unfold tops
  rw [List.length_map]
  exact List.length_filter_le _ _
/-- the program's loop over the deeds -/
theorem run_ok {n out : Nat} {ms : List Nat} {xs : List Deed} {bs : List Nat} (hb : Bits bs) (hl : bs.length = n) (hf : Fit ms (tops xs)) (hr : Row n xs) (hz : n + xs.length ≤ 1000) :
    m_run_deeds [rowD n xs out, .lst (bs.map nD), .lst (heldL (xs.filter Deed.marked) ms (xs.filter Deed.marked).length), .int 1] = .ok (.tup [.lst ((runD ms bs xs).1.map nD), .lst (heldL (xs.filter Deed.marked) (runD ms bs xs).2 (runD ms bs xs).2.length)]) := by
  have hd := row_deeds n xs out
  obtain ⟨e', h1, o6, o7, o8, o9, o10, rfl⟩ := run_loop (R := rowD n xs out) (B := .lst (bs.map nD)) hb hl hf hr hz
  unfold m_run_deeds
  rw [fn4]
  show done (seq (asg (gnm 4) (un blist (var 1))) (seq (asg (gnm 5) (lstE argN)) (seq (for_ (iseq (un (oattr ["Row"] "deeds") (var 0))) (gnm 6) runB) (ret (tupE (argC (var 4) (argC (var 5) argN)))))) [some (rowD n xs out), some (.lst (bs.map nD)), some (.lst (heldL (xs.filter Deed.marked) ms (xs.filter Deed.marked).length)), some (.int 1), none, none, none, none, none, none, none, none]) = _
  generalize rowD n xs out = R at *
  generalize hL : heldL (xs.filter Deed.marked) ms (xs.filter Deed.marked).length = L at *
  generalize heldL (xs.filter Deed.marked) (runD ms bs xs).2 (runD ms bs xs).2.length = L2 at *
  generalize (runD ms bs xs).1.map nD = B2 at *
  generalize bs.map nD = B at *
  simp [var, hd, h1]
theorem lb_comp {n : Nat} (l : Nat) (hn : n ≤ 1000) {R : D} (hR : oattr ["Row"] "inputs" R = .ok (nD n)) (a b c d e f : Option D) : lcE (irng1 (un (oattr ["Row"] "inputs") (var 0))) [6] (gnm 6) yes (bin oand (bin oshr (var 2) (var 6)) (cst (.int 1))) [some R, a, some (nD l), b, c, d, e, f] = .ok (.lst ((lb n l).map nD)) := by
  unfold lb
  rw [List.map_map]
  have hr0 : irng1 (un (oattr ["Row"] "inputs") (var 0)) [some R, a, some (nD l), b, c, d, e, f] = .ok ((List.range n).map fun i => .int ((i : Nat) : Int)) := irng1_nat (by simp [var, hR, nD]) (rng_lt hn)
  refine lc_mapI (k := fun i => .int ((i : Nat) : Int)) hr0 (by rw [List.length_range]; exact le_sz hn) fun i _ => ?_
  have b1 := bitN1 l i
  have b2 := bitN2 (l / 2 ^ i)
  show ∃ e1, _ ∧ _ = Res.ok (nD (l / 2 ^ i % 2))
  generalize nD (l / 2 ^ i % 2) = u at *
  generalize nD (l / 2 ^ i) = v at *
  change oshr (nD l) (.int (i : Int)) = _ at b1
  generalize (i : Int) = z at *
  generalize nD l = q at *
  exact ⟨_, rfl, by simp only [wipe]; simp [var, b1, b2]⟩
theorem column_ok {n : Nat} {x : Deed} (hx : x.ok n) {m : Nat} (hm : m < x.top) : m_mark_column [x.held m, .int 1] = .ok (.lst [nD m]) := by
  cases x with
  | count p r ps => exact column_hot hx.1 hm
  | _ =>
    refine column_nat ?_
    have : m < 2 := hm
    omega
theorem range_getD (ms : List Nat) : (List.range ms.length).map (fun i => nD (ms.getD i 0)) = ms.map nD := by
  apply List.ext_getElem
  · simp
  · intro i h1 h2
    simp at h1
    simp [h1]
theorem filt_ok {n : Nat} {xs : List Deed} (hr : Row n xs) : ∀ x ∈ xs.filter Deed.marked, ∃ k, x.ok k := fun x hx => by
  obtain ⟨k, hk, e⟩ := List.mem_iff_getElem.mp (List.mem_filter.mp hx).1
  exact ⟨n + k, e ▸ hr k hk⟩
theorem top5 {n : Nat} {xs : List Deed} (hr : Row n xs) : ∀ x ∈ xs, x.top ≤ 5 := fun x hx => by
  obtain ⟨k, hk, e⟩ := List.mem_iff_getElem.mp hx
  have h := hr k hk
  rw [e] at h
  cases x with
  | count p r ps =>
    obtain ⟨hp, _⟩ := h
    show p ≤ 5
    omega
  | _ =>
    show 2 ≤ 5
    decide
theorem after_ok {ys : List Deed} (hy : ∀ x ∈ ys, ∃ k, x.ok k) {m2 : List Nat} (hf : Fit m2 (ys.map Deed.top)) (hz : m2.length ≤ 1000) (a b c d e f g : Option D) : lcE (iseq (var 5)) [7] (gnm 7) yes (bin oidx (call m_mark_column (argC (var 7) (argC (cst (.int 1)) argN))) (cst (.int 0))) [a, b, c, d, e, some (.lst (heldL ys m2 m2.length)), f, g] = .ok (.lst (m2.map nD)) := by
  rw [← range_getD]
  unfold heldL
  refine lc_mapI (k := fun i => (ys.getD i .zero).held (m2.getD i 0)) (by simp [var]) (by rw [List.length_range]; exact le_sz hz) fun i hi => ?_
  have hl := hf.len
  rw [List.length_map] at hl
  have hi2 : i < ys.length := by
    have : i < m2.length := by simpa using hi
    omega
  obtain ⟨k, hk⟩ := hy ys[i] (List.getElem_mem hi2)
  have e2 : ys.getD i .zero = ys[i] := by simp [hi2]
  have hlt : m2.getD i 0 < ys[i].top := hf.at (by simp [hi2])
  rw [e2]
  have q := column_ok hk hlt
  have q0 : oidx (.lst [nD (m2.getD i 0)]) (.int 0) = .ok (nD (m2.getD i 0)) := rfl
  show ∃ e1, _ ∧ _ = Res.ok (nD (m2.getD i 0))
  generalize nD (m2.getD i 0) = u at *
  generalize ys[i].held (m2.getD i 0) = v at *
  exact ⟨_, rfl, by simp only [wipe]; simp [var, q, q0]⟩
/-- one place of a row -/
theorem place_ok {n out : Nat} {ms : List Nat} {xs : List Deed} (l : Nat) (hf : Fit ms (tops xs)) (hr : Row n xs) (hz : n + xs.length ≤ 1000) :
    m_place_step [rowD n xs out, .tup (ms.map nD), nD l] = .ok (.tup [.tup ((runD ms (lb n l) xs).1.map nD), .tup ((runD ms (lb n l) xs).2.map nD)]) := by
  have hi := row_inputs n xs out
  have h1 := lb_comp l (by omega) hi
  have h2 := held_ok (n := n) (out := out) (ms := ms) (xs := xs) (by omega) hf (top5 hr)
  have h3 := run_ok (out := out) (lb_bits n l) (lb_len n l) hf hr hz
  have f2 := runD_fit l hf hr hz
  have l2 := f2.len
  have l3 := tops_len xs
  have h4 := after_ok (filt_ok hr) f2 (by omega)
  unfold m_place_step
  rw [fn3]
  unfold b_place_step
  generalize rowD n xs out = R at *
  generalize heldL (xs.filter Deed.marked) ms (xs.filter Deed.marked).length = L at *
  generalize heldL (xs.filter Deed.marked) (runD ms (lb n l) xs).2 (runD ms (lb n l) xs).2.length = L2 at *
  generalize (runD ms (lb n l) xs).1.map nD = B2 at *
  generalize (runD ms (lb n l) xs).2.map nD = M2 at *
  generalize (lb n l).map nD = B at *
  generalize ms.map nD = M at *
  generalize nD l = q at *
  simp [var, gtup, gtupL, h1, h2, h3, h4]

theorem isint_ok (n : Nat) : m_is_integer [nD n] = .ok (.bl true) := by
  have h1 : oisi CS [.int] (nD n) = .ok (.bl true) := rfl
  have h2 : oisi CS [.bl] (nD n) = .ok (.bl false) := rfl
  unfold m_is_integer
  rw [fn1]
  unfold b_is_integer
  generalize nD n = N at *
  simp [var, h1, h2]
theorem is_below_ok (a b : Nat) : m_is_below [nD a, nD b] = .ok (.bl (decide (a < b))) := by
  have h := isint_ok a
  have h1 : ole (.int 0) (nD a) = .ok (.bl true) := by
    unfold nD
    rw [ole_ii, decide_eq_true (by omega)]
  have h2 : olt (nD a) (nD b) = .ok (.bl (decide (a < b))) := by
    unfold nD
    rw [olt_ii]
    congr 2
    exact decide_eq_decide.mpr (by omega)
  unfold m_is_below
  rw [fn2]
  unfold b_is_below
  generalize nD a = A at *
  generalize nD b = B at *
  simp [var, h, h1, h2]
theorem Fit.zip : ∀ {ms ts : List Nat}, Fit ms ts → ∀ p ∈ ms.zip ts, p.1 < p.2
  | [], [], _, p, h => by simp at h
  | m :: ms, t :: ts, f, p, h => by
    rw [List.zip_cons_cons] at h
    rcases List.mem_cons.mp h with rfl | h
    · exact f.1
    · exact Fit.zip f.2 p h
  | [], _ :: _, f, _, _ => f.elim
  | _ :: _, [], f, _, _ => f.elim
theorem fits_ok {ms ts : List Nat} (hf : Fit ms ts) (hz : ms.length ≤ 1000) : m_fits_limits [.tup (ms.map nD), .lst (ts.map nD)] = .ok (.bl true) := by
  have hl := hf.len
  have h0 : oisi CS [.tup] (.tup (ms.map nD)) = .ok (.bl true) := rfl
  have h1 : blen (.tup (ms.map nD)) = .ok (.int ((ms.length : Nat) : Int)) := by simp
  have h2 : blen (.lst (ts.map nD)) = .ok (.int ((ms.length : Nat) : Int)) := by simp [hl]
  have hi : ozip (.tup (ms.map nD)) (.lst (ts.map nD)) = .ok ((ms.zip ts).map fun p => .tup [nD p.1, nD p.2]) := by
    show Res.ok (((ms.map nD).zip (ts.map nD)).map fun p => D.tup [p.1, p.2]) = _
    rw [List.zip_map, List.map_map]
    rfl
  have hc : ∀ a b, lcE (izip (var 0) (var 1)) [2, 3] (gtup [(gnm 2), (gnm 3)]) yes (call m_is_below (argC (var 2) (argC (var 3) argN))) [some (.tup (ms.map nD)), some (.lst (ts.map nD)), a, b] = .ok (.lst ((ms.zip ts).map fun _ => .bl true)) := fun a b => by
    refine lc_mapI (k := fun p : Nat × Nat => .tup [nD p.1, nD p.2]) (by unfold izip; simp [var, hi]) (le_sz (by rw [List.length_zip]; omega)) fun p hp => ?_
    have q := is_below_ok p.1 p.2
    rw [decide_eq_true (hf.zip p hp)] at q
    generalize nD p.1 = A at *
    generalize nD p.2 = B at *
    generalize D.tup (ms.map nD) = T at *
    generalize D.lst (ts.map nD) = S at *
    exact ⟨_, rfl, by simp only [wipe]; simp [var, q]⟩
  have hb : ball (.lst ((ms.zip ts).map fun _ => .bl true)) = .ok (.bl true) := by
    have := ball_bools ((ms.zip ts).map fun _ => true)
    rw [List.map_map] at this
    refine this.trans ?_
    rw [show ((ms.zip ts).map fun _ => true).all id = true by simp]
  unfold m_fits_limits
  rw [fn2]
  unfold b_fits_limits
  generalize D.lst ((ms.zip ts).map fun _ => .bl true) = Z at *
  generalize D.tup (ms.map nD) = T at *
  generalize D.lst (ts.map nD) = S at *
  generalize ((ms.length : Nat) : Int) = N at *
  simp [var, h0, h1, h2, hc, hb]
theorem is_marks_ok {n out : Nat} {ms : List Nat} {xs : List Deed} (hf : Fit ms (tops xs)) (hz : xs.length ≤ 1000) : m_is_marks [rowD n xs out, .tup (ms.map nD)] = .ok (.bl true) := by
  have l1 := hf.len
  have l2 := tops_len xs
  have h1 := limits_ok (n := n) (out := out) hz
  have h2 := fits_ok hf (by omega)
  unfold m_is_marks
  rw [fn2]
  unfold b_is_marks
  generalize rowD n xs out = R at *
  generalize D.tup (ms.map nD) = T at *
  generalize D.lst ((tops xs).map nD) = S at *
  simp [var, h1, h2]
theorem shl_nD {n : Nat} (h : n ≤ 1000) : oshl (.int 1) (nD n) = .ok (nD (2 ^ n)) := by
  unfold nD
  rw [oshl1 n h]
  simp
theorem mark_step_ok {n out l : Nat} {ms : List Nat} {xs : List Deed} (hl : l < 2 ^ n) (hf : Fit ms (tops xs)) (hr : Row n xs) (hz : n + xs.length ≤ 1000) :
    m_mark_step [rowD n xs out, .tup (ms.map nD), nD l] = .ok (.tup [.tup ((runD ms (lb n l) xs).1.map nD), .tup ((runD ms (lb n l) xs).2.map nD)]) := by
  have h1 := is_marks_ok (n := n) (out := out) hf (by omega)
  have h2 := is_below_ok l (2 ^ n)
  rw [decide_eq_true hl] at h2
  have h3 := row_inputs n xs out
  have h4 := shl_nD (n := n) (by omega)
  have h5 := place_ok (out := out) l hf hr hz
  unfold m_mark_step
  rw [fn3]
  unfold b_mark_step
  generalize rowD n xs out = R at *
  generalize D.tup (ms.map nD) = T at *
  generalize (runD ms (lb n l) xs).1.map nD = B2 at *
  generalize (runD ms (lb n l) xs).2.map nD = M2 at *
  generalize nD (2 ^ n) = P at *
  generalize nD n = N at *
  generalize nD l = L at *
  simp [var, h1, h2, h3, h4, h5]

/-! ### the same? -/
theorem nmap (xs : List Nat) : xs.map nD = (xs.map fun (n : Nat) => (n : Int)).map D.int := by
  rw [List.map_map]
  rfl
/-! ### the row is made -/
theorem inputs_ok {n : Nat} (h1 : 1 ≤ n) (h3 : n ≤ 3) : m_is_inputs [nD n] = .ok (.bl true) := by
  have : n = 1 ∨ n = 2 ∨ n = 3 := by omega
  rcases this with rfl | rfl | rfl <;> rfl
theorem are_values_ok {W : D} {ps : List Nat} {k : Nat} (hW : iseq (var 0) [some W, some (nD k), none] = .ok (ps.map nD)) (hp : ∀ a ∈ ps, a < k) (hz : ps.length ≤ 1000) : m_are_values [W, nD k] = .ok (.bl true) := by
  have hc : lcE (iseq (var 0)) [2] (gnm 2) yes (call m_is_below (argC (var 2) (argC (var 1) argN))) [some W, some (nD k), none] = .ok (.lst (ps.map fun _ => .bl true)) := by
    refine lc_mapI (k := nD) hW (le_sz hz) fun a ha => ?_
    have q := is_below_ok a k
    rw [decide_eq_true (hp a ha)] at q
    generalize nD a = A at *
    generalize nD k = N at *
    exact ⟨_, rfl, by simp only [wipe]; simp [var, q]⟩
  have hb : ball (.lst (ps.map fun _ => .bl true)) = .ok (.bl true) := by
    have := ball_bools (ps.map fun _ => true)
    rw [List.map_map] at this
    refine this.trans ?_
    rw [show (ps.map fun _ => true).all id = true by simp]
  unfold m_are_values
  rw [fn2]
  unfold b_are_values
  generalize nD k = N at *
  generalize D.lst (ps.map fun _ => .bl true) = Z at *
  simp [var, hc, hb]
theorem values_t {ps : List Nat} {k : Nat} (hp : ∀ a ∈ ps, a < k) (hz : ps.length ≤ 1000) : m_are_values [.tup (ps.map nD), nD k] = .ok (.bl true) := are_values_ok (by simp [var]) hp hz
theorem count_deed_ok {p r k : Nat} {ps : List Nat} (hp : p = 2 ∨ p = 3 ∨ p = 5) (hr : r < p) (h1 : 1 ≤ ps.length) (h4 : ps.length ≤ 4) (ha : ∀ a ∈ ps, a < k) : m_is_count_deed [(Deed.count p r ps).d, nD k] = .ok (.bl true) := by
  have q1 := isint_ok p
  have q2 := is_below_ok r p
  rw [decide_eq_true hr] at q2
  have q3 := values_t ha (by omega)
  have q4 : onotin (nD p) (.tup [.int 2, .int 3, .int 5]) = .ok (.bl false) := by rcases hp with rfl | rfl | rfl <;> rfl
  have q5 : blen (Deed.count p r ps).d = .ok (.int 4) := rfl
  have q6 : oslc (Deed.count p r ps).d (some 1) none = .ok (.tup [nD p, nD r, .tup (ps.map nD)]) := rfl
  have q7 : oisi CS [.tup] (.tup (ps.map nD)) = .ok (.bl true) := rfl
  have q8 : blen (.tup (ps.map nD)) = .ok (.int ((ps.length : Nat) : Int)) := by simp
  have q9 : ole (.int 1) (.int ((ps.length : Nat) : Int)) = .ok (.bl true) := by rw [ole_ii, decide_eq_true (by omega)]
  have q10 : ole (.int ((ps.length : Nat) : Int)) (.int 4) = .ok (.bl true) := by rw [ole_ii, decide_eq_true (by omega)]
  unfold m_is_count_deed
  rw [fn2]
  unfold b_is_count_deed
  generalize (Deed.count p r ps).d = X at *
  generalize D.tup (ps.map nD) = T at *
  generalize ((ps.length : Nat) : Int) = Z at *
  generalize nD p = P' at *
  generalize nD r = R' at *
  generalize nD k = K' at *
  simp [var, gtup, gtupL, slc_eq, bnd_none, bnd_some, q1, q2, q3, q4, q5, q6, q7, q8, q9, q10]
theorem deed_plain {s : String} {vs : List Nat} {k : Nat} (hs : oeq (.str s) (.str "count") = .ok (.bl false)) (ht : onothas tab_SIZES (.str s) = .ok (.bl false)) (hl : olook tab_SIZES (.str s) = .ok (.int (vs.length : Int))) (ha : ∀ a ∈ vs, a < k) (hz : vs.length ≤ 1000) : m_is_deed [.tup (.str s :: vs.map nD), nD k] = .ok (.bl true) := by
  have q1 : oisi CS [.tup] (.tup (.str s :: vs.map nD)) = .ok (.bl true) := rfl
  have q2 : truthy (.tup (.str s :: vs.map nD)) = .ok true := by simp [truthy]
  have q3 : oidx (.tup (.str s :: vs.map nD)) (.int 0) = .ok (.str s) := oidx_t (k := 0) rfl
  have q4 : oisi CS [.str] (.str s) = .ok (.bl true) := rfl
  have q5 : blen (.tup (.str s :: vs.map nD)) = .ok (.int ((vs.length : Int) + 1)) := by simp
  have q6 : oslc (.tup (.str s :: vs.map nD)) (some 1) none = .ok (.tup (vs.map nD)) := by
    show Res.ok (D.tup (cut (.str s :: vs.map nD) (some 1) none)) = _
    have e : cut (D.str s :: vs.map nD) (some 1) none = vs.map nD := by
      unfold cut
      have e0 : HT.sIx (D.str s :: vs.map nD).length 0 (some 1) = 1 := by
        rw [show (1 : Int) = ((1 : Nat) : Int) from rfl, HT.sIx_nat]
        simp
      have e1 : HT.sIx (D.str s :: vs.map nD).length (D.str s :: vs.map nD).length none = (D.str s :: vs.map nD).length := rfl
      rw [e0, e1]
      have l : (vs.map nD).length = vs.length := List.length_map _
      simp only [List.drop_succ_cons, List.drop_zero, List.length_cons, Nat.add_sub_cancel]
      exact List.take_of_length_le (by omega)
    rw [e]
  have q7 := values_t ha hz
  unfold m_is_deed
  rw [fn2]
  unfold b_is_deed
  generalize D.tup (.str s :: vs.map nD) = X at *
  generalize D.tup (vs.map nD) = T at *
  generalize nD k = K' at *
  simp [var, slc_eq, bnd_none, bnd_some, q1, q2, q3, q4, q5, q6, q7, hs, ht, hl]
theorem deed_count {p r k : Nat} {ps : List Nat} (hp : p = 2 ∨ p = 3 ∨ p = 5) (hr : r < p) (h1 : 1 ≤ ps.length) (h4 : ps.length ≤ 4) (ha : ∀ a ∈ ps, a < k) : m_is_deed [(Deed.count p r ps).d, nD k] = .ok (.bl true) := by
  have q := count_deed_ok hp hr h1 h4 ha
  have q1 : oisi CS [.tup] (Deed.count p r ps).d = .ok (.bl true) := rfl
  have q2 : truthy (Deed.count p r ps).d = .ok true := rfl
  have q3 : oidx (Deed.count p r ps).d (.int 0) = .ok (.str "count") := rfl
  have q4 : oisi CS [.str] (.str "count") = .ok (.bl true) := rfl
  have q5 : oeq (.str "count") (.str "count") = .ok (.bl true) := rfl
  unfold m_is_deed
  rw [fn2]
  unfold b_is_deed
  generalize (Deed.count p r ps).d = X at *
  generalize nD k = K' at *
  simp [var, q, q1, q2, q3, q4, q5]
theorem is_deed_ok {k : Nat} {x : Deed} (h : x.ok k) : m_is_deed [x.d, nD k] = .ok (.bl true) := by
  cases x with
  | zero => exact deed_plain (s := "zero") (vs := []) rfl rfl rfl (by simp) (by simp)
  | ones => exact deed_plain (s := "ones") (vs := []) rfl rfl rfl (by simp) (by simp)
  | inv a => exact deed_plain (s := "not") (vs := [a]) rfl rfl rfl (by simpa [Deed.ok] using h) (by simp)
  | and a b => exact deed_plain (s := "and") (vs := [a, b]) rfl rfl rfl (by simpa [Deed.ok] using h) (by simp)
  | or a b => exact deed_plain (s := "or") (vs := [a, b]) rfl rfl rfl (by simpa [Deed.ok] using h) (by simp)
  | xor a b => exact deed_plain (s := "xor") (vs := [a, b]) rfl rfl rfl (by simpa [Deed.ok] using h) (by simp)
  | shift a => exact deed_plain (s := "shift") (vs := [a]) rfl rfl rfl (by simpa [Deed.ok] using h) (by simp)
  | minus a => exact deed_plain (s := "minus") (vs := [a]) rfl rfl rfl (by simpa [Deed.ok] using h) (by simp)
  | add a b => exact deed_plain (s := "add") (vs := [a, b]) rfl rfl rfl (by simpa [Deed.ok] using h) (by simp)
  | sub a b => exact deed_plain (s := "sub") (vs := [a, b]) rfl rfl rfl (by simpa [Deed.ok] using h) (by simp)
  | count p r ps => exact deed_count h.1 h.2.1 h.2.2.1 h.2.2.2.1 h.2.2.2.2

theorem row_loop {n : Nat} {xs : List Deed} (hr : Row n xs) {S I O T : D} (hI : I = nD n) : ∃ e', forL (forB (gtup [(gnm 5), (gnm 6)]) (Py.ite (notT (tst (call m_is_deed (argC (var 6) (argC (bin oadd (var 1) (var 5)) argN))))) (rais "InvalidRow" ["part", "place"] (argC (cst (.str "deeds")) (argC (var 5) argN))) skip)) (enumL 0 (xs.map Deed.d)) [some S, some I, some T, some O, some T, none, none] = .ok (.next e') ∧
    ∃ o5 o6, e' = [some S, some I, some T, some O, some T, o5, o6] := by
  refine forL_inv (fun k e => ∃ o5 o6, e = [some S, some I, some T, some O, some T, o5, o6]) 0 ⟨none, none, rfl⟩ ?_
  rintro k e hk ⟨o5, o6, rfl⟩
  have hk2 : k < xs.length := by
    rw [enum_len, List.length_map] at hk
    exact hk
  have q := is_deed_ok (hr k hk2)
  have q2 : oadd I (.int (k : Int)) = .ok (nD (n + k)) := by
    rw [hI]
    unfold nD
    rw [oadd_ii]
    simp
  rw [enum_at hk (by simpa using hk2), List.getElem_map, Nat.zero_add]
  generalize nD (n + k) = Z at *
  generalize hX : xs[k].d = X at *
  generalize (k : Int) = z at *
  exact ⟨[some S, some I, some T, some O, some T, some (.int z), some X], by simp [var, gtup, gtupL, q, q2], _, _, rfl⟩
theorem made_eq {p n : Nat} {cls : String} {body : SM} {ds : List D} {c : String} {fs : List (String × D)} {r : Env} (hl : ds.length + 1 = p) (h : body ((some (.ins cls []) :: ds.map some) ++ List.replicate (n - p) none) = .ok (.next (some (.ins c fs) :: r))) : made p n cls body ds = .ok (.ins c fs) := by
  unfold made
  rw [if_pos hl, h]
theorem row_made {n out : Nat} {xs : List Deed} (h1 : 1 ≤ n) (h3 : n ≤ 3) (hr : Row n xs) (hz : xs.length ≤ 1000) (ho : out < n + xs.length) : m_Row [nD n, .tup (xs.map Deed.d), nD out] = .ok (rowD n xs out) := by
  have q1 := inputs_ok h1 h3
  have q2 : m_as_tuple [.tup (xs.map Deed.d)] = .ok (.tup (xs.map Deed.d)) := by
    have h : oisi CS [.lst, .tup] (.tup (xs.map Deed.d)) = .ok (.bl true) := rfl
    unfold m_as_tuple
    rw [fn1]
    unfold b_as_tuple
    generalize xs.map Deed.d = Z at *
    simp [var, h]
  have q3 : oisN (.tup (xs.map Deed.d)) = .ok (.bl false) := rfl
  obtain ⟨e', q4, o5, o6, rfl⟩ := row_loop (S := .ins "Row" []) (O := nD out) (T := .tup (xs.map Deed.d)) hr (I := nD n) rfl
  have q5 := is_below_ok out (n + xs.length)
  rw [decide_eq_true ho] at q5
  have q6 : oadd (nD n) (.int ((xs.map Deed.d).length : Int)) = .ok (nD (n + xs.length)) := by
    unfold nD
    rw [oadd_ii, List.length_map]
    simp
  have q7 : ienum (var 4) [some (.ins "Row" []), some (nD n), some (.tup (xs.map Deed.d)), some (nD out), some (.tup (xs.map Deed.d)), none, none] = .ok (enumL 0 (xs.map Deed.d)) := rfl
  have key : b_Row_init [some (.ins "Row" []), some (nD n), some (.tup (xs.map Deed.d)), some (nD out), none, none, none] = .ok (.next [some (rowD n xs out), some (nD n), some (.tup (xs.map Deed.d)), some (nD out), some (.tup (xs.map Deed.d)), o5, o6]) := by
    unfold b_Row_init rowD
    generalize xs.map Deed.d = Z at *
    generalize nD (n + xs.length) = M at *
    generalize nD n = N at *
    generalize nD out = U at *
    simp [var, q1, q2, q3, q4, q5, q6, q7, setF, putF]
  exact made_eq rfl key
theorem tops_le {n : Nat} {xs : List Deed} (hr : Row n xs) : ∀ t ∈ tops xs, 0 < t ∧ t ≤ 5 := fun t ht => by
  obtain ⟨x, hx, rfl⟩ := List.mem_map.mp ht
  have hx' := (List.mem_filter.mp hx).1
  refine ⟨?_, top5 hr x hx'⟩
  obtain ⟨k, hk⟩ := filt_ok hr x hx
  cases x with
  | count p r ps =>
    have := hk.2.1
    show 0 < p
    omega
  | _ =>
    show 0 < 2
    decide
theorem fit_drawn : ∀ {ds : List Int} {ts : List Nat}, Drawn ds (ts.map fun (t : Nat) => (t : Int)) → ∃ ms : List Nat, ds.map D.int = ms.map nD ∧ Fit ms ts
  | [], [], _ => ⟨[], rfl, trivial⟩
  | d :: ds, t :: ts, h => by
    obtain ⟨ms, h1, h2⟩ := fit_drawn (ds := ds) (ts := ts) h.2
    obtain ⟨a, b⟩ := h.1
    have b' : d < (t : Int) := b
    refine ⟨d.toNat :: ms, ?_, by omega, h2⟩
    rw [List.map_cons, List.map_cons, h1]
    unfold nD
    rw [Int.toNat_of_nonneg a]
  | [], _ :: _, h => h.elim
  | _ :: _, [], h => h.elim
theorem marks_drawn {n : Nat} {xs : List Deed} (c : Int) (hr : Row n xs) (hz : xs.length < 1000) : ∃ ms : List Nat, m_law_draws [.int c, .lst ((tops xs).map nD)] = .ok (.lst (ms.map nD)) ∧ Fit ms (tops xs) := by
  have z := tops_len xs
  obtain ⟨ds, hd, q⟩ := draws_ok c ((tops xs).map fun (t : Nat) => (t : Int)) (by rw [List.length_map]; omega) (fun s hs => by
    obtain ⟨t, ht, rfl⟩ := List.mem_map.mp hs
    have := tops_le hr t ht
    omega)
  obtain ⟨ms, h1, h2⟩ := fit_drawn hd
  rw [h1] at q
  rw [← nmap] at q
  exact ⟨ms, q, h2⟩

theorem drawn4 {ds : List Int} {a b c d : Int} (h : Drawn ds [a, b, c, d]) : ∃ x y z u, ds = [x, y, z, u] ∧ (0 ≤ x ∧ x < a) ∧ (0 ≤ y ∧ y < b) ∧ (0 ≤ z ∧ z < c) ∧ 0 ≤ u ∧ u < d := by
  match ds, h with
  | [x, y, z, u], ⟨h1, h2, h3, h4, _⟩ => exact ⟨x, y, z, u, rfl, h1, h2, h3, h4⟩
theorem drawn7 {ds : List Int} {a b c d e f g : Int} (h : Drawn ds [a, b, c, d, e, f, g]) : ∃ x0 x1 x2 x3 x4 x5 x6, ds = [x0, x1, x2, x3, x4, x5, x6] ∧ (0 ≤ x0 ∧ x0 < a) ∧ (0 ≤ x3 ∧ x3 < d) ∧ 0 ≤ x6 ∧ x6 < g := by
  match ds, h with
  | [x0, x1, x2, x3, x4, x5, x6], ⟨h0, _, _, h3, _, _, h6, _⟩ => exact ⟨x0, x1, x2, x3, x4, x5, x6, rfl, h0, h3, h6⟩
theorem Row.snoc {n : Nat} {xs : List Deed} {x : Deed} (hr : Row n xs) (hx : x.ok (n + xs.length)) : Row n (xs ++ [x]) := fun k hk => by
  by_cases h : k < xs.length
  · rw [List.getElem_append_left h]
    exact hr k h
  · have e : k = xs.length := by
      simp at hk
      omega
    subst e
    simpa using hx
theorem mod_nD (z : Int) {n : Nat} (h : 0 < n) : ∃ a : Nat, a < n ∧ omod (.int z) (nD n) = .ok (nD a) := by
  obtain ⟨a, ha, e⟩ := mod_nat z h
  refine ⟨a, ha, ?_⟩
  unfold nD
  rw [omod_ii (by omega), e]
theorem row_loop2 {n : Nat} {xs : List Deed} (hr : Row n xs) {S I O T T2 : D} (hI : I = nD n) : ∃ e', forL (forB (gtup [(gnm 5), (gnm 6)]) (Py.ite (notT (tst (call m_is_deed (argC (var 6) (argC (bin oadd (var 1) (var 5)) argN))))) (rais "InvalidRow" ["part", "place"] (argC (cst (.str "deeds")) (argC (var 5) argN))) skip)) (enumL 0 (xs.map Deed.d)) [some S, some I, some T2, some O, some T, none, none] = .ok (.next e') ∧
    ∃ o5 o6, e' = [some S, some I, some T2, some O, some T, o5, o6] := by
  refine forL_inv (fun k e => ∃ o5 o6, e = [some S, some I, some T2, some O, some T, o5, o6]) 0 ⟨none, none, rfl⟩ ?_
  rintro k e hk ⟨o5, o6, rfl⟩
  have hk2 : k < xs.length := by
    rw [enum_len, List.length_map] at hk
    exact hk
  have q := is_deed_ok (hr k hk2)
  have q2 : oadd I (.int (k : Int)) = .ok (nD (n + k)) := by
    rw [hI]
    exact nadd n k
  rw [enum_at hk (by simpa using hk2), List.getElem_map, Nat.zero_add]
  generalize nD (n + k) = Z at *
  generalize hX : xs[k].d = X at *
  generalize (k : Int) = z at *
  exact ⟨[some S, some I, some T2, some O, some T, some (.int z), some X], by simp [var, gtup, gtupL, q, q2], _, _, rfl⟩
theorem row_made2 {n out : Nat} {xs : List Deed} (h1 : 1 ≤ n) (h3 : n ≤ 3) (hr : Row n xs) (hz : xs.length ≤ 1000) (ho : out < n + xs.length) : m_Row [nD n, .lst (xs.map Deed.d), nD out] = .ok (rowD n xs out) := by
  have q1 := inputs_ok h1 h3
  have q2 : m_as_tuple [.lst (xs.map Deed.d)] = .ok (.tup (xs.map Deed.d)) := by
    have h : oisi CS [.lst, .tup] (.lst (xs.map Deed.d)) = .ok (.bl true) := rfl
    unfold m_as_tuple
    rw [fn1]
    unfold b_as_tuple
    generalize xs.map Deed.d = Z at *
    simp [var, h]
  have q3 : oisN (.tup (xs.map Deed.d)) = .ok (.bl false) := rfl
  obtain ⟨e', q4, o5, o6, rfl⟩ := row_loop2 (S := .ins "Row" []) (O := nD out) (T := .tup (xs.map Deed.d)) (T2 := .lst (xs.map Deed.d)) hr (I := nD n) rfl
  have q5 := is_below_ok out (n + xs.length)
  rw [decide_eq_true ho] at q5
  have q6 : oadd (nD n) (.int ((xs.map Deed.d).length : Int)) = .ok (nD (n + xs.length)) := by
    rw [List.length_map]
    exact nadd n xs.length
  have q7 : ienum (var 4) [some (.ins "Row" []), some (nD n), some (.lst (xs.map Deed.d)), some (nD out), some (.tup (xs.map Deed.d)), none, none] = .ok (enumL 0 (xs.map Deed.d)) := rfl
  have key : b_Row_init [some (.ins "Row" []), some (nD n), some (.lst (xs.map Deed.d)), some (nD out), none, none, none] = .ok (.next [some (rowD n xs out), some (nD n), some (.lst (xs.map Deed.d)), some (nD out), some (.tup (xs.map Deed.d)), o5, o6]) := by
    unfold b_Row_init rowD
    generalize xs.map Deed.d = Z at *
    generalize nD (n + xs.length) = M at *
    generalize nD n = N at *
    generalize nD out = U at *
    simp [var, q1, q2, q3, q4, q5, q6, q7, setF, putF]
  exact made_eq rfl key
theorem cut_take {α : Type} (xs : List α) {k : Nat} (h : k ≤ xs.length) : cut xs none (some (k : Int)) = xs.take k := by
  unfold cut
  have e0 : HT.sIx xs.length 0 none = 0 := rfl
  have e1 : HT.sIx xs.length xs.length (some (k : Int)) = k := by rw [HT.sIx_nat, Nat.min_eq_left h]
  rw [e0, e1, List.drop_zero, Nat.sub_zero]
theorem take_slc {ls : List Nat} {k : Nat} (h : k ≤ ls.length) : oslc (.lst (ls.map nD)) none (some (k : Int)) = .ok (.lst ((ls.take k).map nD)) := by
  rw [oslc_l, cut_take _ (by simpa using h), ← List.map_take]
/-! ### letters drawn -/
theorem rep_one (w : Int) (k : Nat) (h : k ≤ 1000) : olrep (.lst [.int w]) (.int (k : Int)) = .ok (.lst ((List.replicate k w).map D.int)) := by
  have e0 : olrep (.lst [.int w]) (.int (k : Int)) = .ok (.lst (List.replicate (k : Int).toNat [.int w]).flatten) := if_pos ⟨by simp, by simpa using h⟩
  rw [e0, Int.toNat_natCast]
  have e : ∀ n : Nat, (List.replicate n [D.int w]).flatten = (List.replicate n w).map D.int := fun n => by
    induction n with
    | zero => rfl
    | succ n ih => simp [List.replicate_succ, ih]
  rw [e]
theorem drawn_low : ∀ {ds : List Int} {w k : Nat}, Drawn ds (List.replicate k (w : Int)) → ∃ ls : List Nat, ds.map D.int = ls.map nD ∧ ls.length = k ∧ ∀ l ∈ ls, l < w
  | [], w, 0, _ => ⟨[], rfl, rfl, by simp⟩
  | d :: ds, w, k + 1, h => by
    obtain ⟨⟨h1, h2⟩, h3⟩ := (h : (0 ≤ d ∧ d < (w : Int)) ∧ Drawn ds (List.replicate k (w : Int)))
    obtain ⟨ls, e1, e2, e3⟩ := drawn_low h3
    refine ⟨d.toNat :: ls, ?_, by simp [e2], fun l hl => ?_⟩
    · rw [List.map_cons, List.map_cons, e1]
      unfold nD
      rw [Int.toNat_of_nonneg h1]
    · rcases List.mem_cons.mp hl with rfl | hl
      · omega
      · exact e3 l hl
  | [], w, k + 1, h => h.elim
  | d :: ds, w, 0, h => h.elim
theorem low_draws (c : Int) {w k : Nat} (hw : 0 < w ∧ w < 1000000) (hk : k < 1000) : ∃ ls : List Nat, m_law_draws [.int c, .lst ((List.replicate k (w : Int)).map D.int)] = .ok (.lst (ls.map nD)) ∧ ls.length = k ∧ ∀ l ∈ ls, l < w := by
  obtain ⟨ds, hd, q⟩ := draws_ok c (List.replicate k (w : Int)) (by simpa using hk) (fun s hs => by
    have e := List.eq_of_mem_replicate hs
    rw [e]
    omega)
  obtain ⟨ls, e1, e2, e3⟩ := drawn_low hd
  rw [e1] at q
  exact ⟨ls, q, e2, e3⟩
theorem reading_ok {n : Nat} {ls : List Nat} (hn : n ≤ 1000) (h : ∀ l ∈ ls, l < 2 ^ n) (hz : ls.length ≤ 1000) : m_is_reading [.tup (ls.map nD), nD n] = .ok (.bl true) := by
  have h3 := shl_nD hn
  have h1 : oisi CS [.tup] (.tup (ls.map nD)) = .ok (.bl true) := rfl
  have hl : lcE (iseq (var 0)) [2] (gnm 2) yes (call m_is_below (argC (var 2) (argC (bin oshl (cst (.int 1)) (var 1)) argN))) [some (.tup (ls.map nD)), some (nD n), none] = .ok (.lst (ls.map fun _ => .bl true)) := by
    refine lc_mapI (k := nD) (by simp [var]) (le_sz hz) fun l hl => ?_
    have q := is_below_ok l (2 ^ n)
    rw [decide_eq_true (h l hl)] at q
    generalize nD (2 ^ n) = P at *
    generalize nD l = N at *
    generalize nD n = M at *
    exact ⟨_, rfl, by simp only [wipe]; simp [var, q, h3]⟩
  have hb : ball (.lst (ls.map fun _ => .bl true)) = .ok (.bl true) := by
    have := ball_bools (ls.map fun _ => true)
    rw [List.map_map] at this
    refine this.trans ?_
    rw [show (ls.map fun _ => true).all id = true by simp]
  unfold m_is_reading
  rw [fn2]
  unfold b_is_reading
  generalize D.lst (ls.map fun _ => .bl true) = Z at *
  generalize hT : D.tup (ls.map nD) = T at *
  generalize nD n = M at *
  simp [var, h1, hl, hb]
end Py.U

namespace Py.U
open PySem
/-! ### any value at all: numbers in range, marks, readings -/
def gd : D → Bool
  | .ins c _ => c == "Row"
  | _ => true
def belowD (t : Nat) : D → Bool
  | .int z => decide (0 ≤ z) && decide (z < (t : Int))
  | _ => false
theorem isi_any {ts : List Ty} {d : D} (h : gd d = true) (ht : (ts.all fun t => inCs CS t && decide (t ≠ .non)) = true) : oisi CS ts d = .ok (.bl (ts.any fun t => isI t d)) := by
  have h1 : inCs CS (tyOf d) = true := by
    cases d with
    | ins c fs =>
      have hc : c = "Row" := by simpa [gd] using h
      subst hc
      rfl
    | _ => rfl
  unfold oisi
  rw [h1, Bool.true_and]
  exact if_pos ht
theorem isint_any {d : D} (h : gd d = true) : m_is_integer [d] = .ok (.bl (isI .int d && !isI .bl d)) := by
  have e1 := isi_any (ts := [.int]) h rfl
  have e2 := isi_any (ts := [.bl]) h rfl
  unfold m_is_integer
  rw [fn1]
  unfold b_is_integer
  simp only [List.any_cons, List.any_nil, Bool.or_false] at e1 e2
  cases hi : isI .int d <;> simp [var, e1, e2, hi]
theorem not_int {d : D} (h : (isI .int d && !isI .bl d) = true) : ∃ z, d = .int z := by
  cases d <;> first | exact ⟨_, rfl⟩ | simp [isI] at h
theorem below_not {d : D} (h : (isI .int d && !isI .bl d) = false) (t : Nat) : belowD t d = false := by
  cases d <;> first | rfl | simp [isI] at h
theorem below_any {d : D} (h : gd d = true) (t : Nat) : m_is_below [d, nD t] = .ok (.bl (belowD t d)) := by
  have e := isint_any h
  unfold m_is_below
  rw [fn2]
  unfold b_is_below
  unfold nD
  cases hi : (isI .int d && !isI .bl d) with
  | true =>
    obtain ⟨z, rfl⟩ := not_int hi
    rw [hi] at e
    unfold belowD
    generalize (t : Int) = T at *
    by_cases h0 : 0 ≤ z <;> simp [var, e, h0]
  | false =>
    rw [hi] at e
    rw [below_not hi]
    generalize (t : Int) = T at *
    simp [var, e]
theorem range_any {d : D} (h : gd d = true) (t : Nat) : m_law_in_range [d, .int 0, .int ((t : Int) - 1)] = .ok (.bl (belowD t d)) := by
  have e1 := isi_any (ts := [.int]) h rfl
  have e2 := isi_any (ts := [.bl]) h rfl
  simp only [List.any_cons, List.any_nil, Bool.or_false] at e1 e2
  unfold m_law_in_range
  rw [fn3]
  unfold b__law_in_range
  cases hi : (isI .int d && !isI .bl d) with
  | true =>
    obtain ⟨z, rfl⟩ := not_int hi
    rw [show belowD t (.int z) = (decide (0 ≤ z) && decide (z < (t : Int))) from rfl]
    have hz : decide (z < (t : Int)) = decide (z ≤ (t : Int) - 1) := decide_eq_decide.mpr (by omega)
    rw [hz]
    generalize (t : Int) = T at *
    have e3 : isI .int (.int z) = true := rfl
    have e4 : isI .bl (.int z) = false := rfl
    rw [e3] at e1
    rw [e4] at e2
    by_cases h0 : 0 ≤ z <;> simp [var, e1, e2, h0]
  | false =>
    rw [below_not hi]
    generalize (t : Int) = T at *
    rw [Bool.and_eq_false_iff] at hi
    cases h1 : isI .int d with
    | false =>
      rw [h1] at e1
      simp [var, e1]
    | true =>
      have h2 : isI .bl d = true := by
        rcases hi with hi | hi
        · rw [h1] at hi
          cases hi
        · simpa using hi
      rw [h1] at e1
      rw [h2] at e2
      simp [var, e1, e2]
/-- a value that may be asked anything -/
structure Okd (v : D) : Prop where
  top : gd v = true
  mem : ∀ xs, v = .tup xs → (∀ x ∈ xs, gd x = true) ∧ xs.length ≤ 1000
def judge (ts : List Nat) : D → Bool
  | .tup xs => decide (xs.length = ts.length) && (List.range ts.length).all fun k => belowD (ts.getD k 0) (xs.getD k .non)
  | _ => false
theorem judge_tup (ts : List Nat) (xs : List D) : judge ts (.tup xs) = (decide (xs.length = ts.length) && (List.range ts.length).all fun k => belowD (ts.getD k 0) (xs.getD k .non)) := rfl
theorem isI_tup {v : D} (h : isI .tup v = true) : ∃ xs, v = .tup xs := by
  cases v <;> first | exact ⟨_, rfl⟩ | simp [isI] at h
theorem judge_not {v : D} (h : isI .tup v = false) (ts : List Nat) : judge ts v = false := by
  cases v <;> first | rfl | simp [isI] at h
theorem zip_range {xs : List D} {ts : List Nat} (h : xs.length = ts.length) : xs.zip ts = (List.range ts.length).map fun k => (xs.getD k .non, ts.getD k 0) := by
  apply List.ext_getElem
  · simp [h]
  · intro i h1 h2
    have hx : i < xs.length := by
      rw [List.length_zip] at h1
      omega
    have ht : i < ts.length := by omega
    simp [hx, ht]
theorem fits_any {v : D} {ts : List Nat} (hv : Okd v) (hz : ts.length ≤ 1000) : m_fits_limits [v, .lst (ts.map nD)] = .ok (.bl (judge ts v)) := by
  have e0 := isi_any (ts := [.tup]) hv.top rfl
  simp only [List.any_cons, List.any_nil, Bool.or_false] at e0
  unfold m_fits_limits
  rw [fn2]
  unfold b_fits_limits
  cases hi : isI .tup v with
  | false =>
    rw [hi] at e0
    rw [judge_not hi]
    generalize D.lst (ts.map nD) = S at *
    simp [var, e0]
  | true =>
    obtain ⟨xs, rfl⟩ := isI_tup hi
    obtain ⟨hg, hl⟩ := hv.mem xs rfl
    rw [hi] at e0
    have h1 : blen (.tup xs) = .ok (nD xs.length) := rfl
    have h2 : blen (.lst (ts.map nD)) = .ok (nD ts.length) := by
      rw [blen_l, List.length_map]
      rfl
    have h3 : Py.one (nD xs.length) (nD ts.length) = .ok (.bl (!decide (xs.length = ts.length))) := by
      unfold nD
      rw [one_ii]
      by_cases e : xs.length = ts.length
      · simp [e]
      · have e2 : ¬ (xs.length : Int) = (ts.length : Int) := by omega
        simp [e, e2]
    by_cases e : xs.length = ts.length
    · have hi2 : ozip (.tup xs) (.lst (ts.map nD)) = .ok ((List.range ts.length).map fun k => .tup [xs.getD k .non, nD (ts.getD k 0)]) := by
        show Res.ok ((xs.zip (ts.map nD)).map fun p => D.tup [p.1, p.2]) = _
        rw [List.zip_map_right, zip_range e, List.map_map, List.map_map]
        rfl
      have hc : ∀ a b, lcE (izip (var 0) (var 1)) [2, 3] (gtup [(gnm 2), (gnm 3)]) yes (call m_is_below (argC (var 2) (argC (var 3) argN))) [some (.tup xs), some (.lst (ts.map nD)), a, b] = .ok (.lst ((List.range ts.length).map fun k => .bl (belowD (ts.getD k 0) (xs.getD k .non)))) := fun a b => by
        refine lc_mapI (ys := List.range ts.length) (k := fun k => .tup [xs.getD k .non, nD (ts.getD k 0)]) (by unfold izip; simp only [var, List.getElem?_cons_zero, List.getElem?_cons_succ, bind_ok, hi2]) (le_sz (by simp; omega)) fun k hk => ?_
        have hk2 : k < ts.length := by simpa using hk
        have gx : gd (xs.getD k .non) = true := by
          have hx : k < xs.length := by omega
          rw [List.getD_eq_getElem?_getD, List.getElem?_eq_getElem hx]
          exact hg _ (List.getElem_mem hx)
        have q := below_any gx (ts.getD k 0)
        generalize nD (ts.getD k 0) = B at *
        generalize xs.getD k .non = A2 at *
        generalize D.tup xs = T at *
        generalize D.lst (ts.map nD) = S at *
        exact ⟨_, rfl, by simp only [wipe]; simp [var, q]⟩
      have hb : ball (.lst ((List.range ts.length).map fun k => D.bl (belowD (ts.getD k 0) (xs.getD k .non)))) = .ok (.bl (judge ts (.tup xs))) := by
        have := ball_bools ((List.range ts.length).map fun k => belowD (ts.getD k 0) (xs.getD k .non))
        rw [List.map_map] at this
        refine this.trans ?_
        rw [judge_tup, decide_eq_true e, Bool.true_and, List.all_map]
        rfl
      rw [decide_eq_true e] at h3
      generalize D.lst ((List.range ts.length).map fun k => D.bl (belowD (ts.getD k 0) (xs.getD k .non))) = Z at *
      generalize judge ts (.tup xs) = J at *
      generalize D.tup xs = T at *
      generalize D.lst (ts.map nD) = S at *
      generalize nD xs.length = N1 at *
      generalize nD ts.length = N2 at *
      simp [var, e0, h1, h2, h3, hc, hb]
    · have hj : judge ts (.tup xs) = false := by
        rw [judge_tup, decide_eq_false e, Bool.false_and]
      rw [hj]
      rw [decide_eq_false e] at h3
      generalize D.tup xs = T at *
      generalize D.lst (ts.map nD) = S at *
      generalize nD xs.length = N1 at *
      generalize nD ts.length = N2 at *
      simp [var, e0, h1, h2, h3]
theorem is_marks_any {n out : Nat} {xs : List Deed} {v : D} (hv : Okd v) (hz : xs.length ≤ 1000) : m_is_marks [rowD n xs out, v] = .ok (.bl (judge (tops xs) v)) := by
  have h1 := limits_ok (n := n) (out := out) hz
  have h2 := fits_any (ts := tops xs) hv (Nat.le_trans (tops_len xs) hz)
  unfold m_is_marks
  rw [fn2]
  unfold b_is_marks
  generalize rowD n xs out = R at *
  generalize D.lst ((tops xs).map nD) = S at *
  simp [var, h1, h2]
def jB : SM := Py.ite (notT (tst (call m_law_in_range (argC (bin oidx (var 1) (var 2)) (argC (cst (.int 0)) (argC (bin osub (bin oidx (var 0) (var 2)) (cst (.int 1))) argN)))))) (ret (cst (.bl false))) skip
theorem judged_any {v : D} {ts : List Nat} (hv : Okd v) (hz : ts.length ≤ 1000) : m_law_judged [.lst (ts.map nD), v] = .ok (.bl (judge ts v)) := by
  have e0 := isi_any (ts := [.tup]) hv.top rfl
  simp only [List.any_cons, List.any_nil, Bool.or_false] at e0
  unfold m_law_judged
  rw [fn2]
  unfold b__law_judged
  cases hi : isI .tup v with
  | false =>
    rw [hi] at e0
    rw [judge_not hi]
    generalize D.lst (ts.map nD) = S at *
    simp [var, e0]
  | true =>
    obtain ⟨xs, rfl⟩ := isI_tup hi
    obtain ⟨hg, hl⟩ := hv.mem xs rfl
    rw [hi] at e0
    have h1 : blen (.tup xs) = .ok (nD xs.length) := rfl
    have h2 : blen (.lst (ts.map nD)) = .ok (nD ts.length) := by
      rw [blen_l, List.length_map]
      rfl
    have h3 : Py.one (nD xs.length) (nD ts.length) = .ok (.bl (!decide (xs.length = ts.length))) := by
      unfold nD
      rw [one_ii]
      by_cases e : xs.length = ts.length
      · simp [e]
      · have e2 : ¬ (xs.length : Int) = (ts.length : Int) := by omega
        simp [e, e2]
    by_cases e : xs.length = ts.length
    · have hr : ∀ o, irng1 (un blen (var 0)) [some (.lst (ts.map nD)), some (.tup xs), o] = .ok ((List.range ts.length).map fun i => .int ((i : Nat) : Int)) := fun o => irng1_nat (by simp only [var, un_eq, List.getElem?_cons_zero, bind_ok, h2, nD]) (rng_lt hz)
      have body : ∀ k, k < ts.length → ∀ o, forB (gnm 2) jB (.int ((k : Nat) : Int)) [some (.lst (ts.map nD)), some (.tup xs), o] = if (!belowD (ts.getD k 0) (xs.getD k .non)) then .ok (.ret (.bl false)) else .ok (.next [some (.lst (ts.map nD)), some (.tup xs), some (.int ((k : Nat) : Int))]) := fun k hk o => by
        have hx : k < xs.length := by omega
        have i1 : oidx (.tup xs) (.int ((k : Nat) : Int)) = .ok (xs.getD k .non) := oidx_t (by simp [hx])
        have i2 : oidx (.lst (ts.map nD)) (.int ((k : Nat) : Int)) = .ok (.int ((ts.getD k 0 : Nat) : Int)) := oidx_l (by simp [hk, nD])
        have gx : gd (xs.getD k .non) = true := by
          rw [List.getD_eq_getElem?_getD, List.getElem?_eq_getElem hx]
          exact hg _ (List.getElem_mem hx)
        have q := range_any gx (ts.getD k 0)
        generalize belowD (ts.getD k 0) (xs.getD k .non) = Bw at *
        generalize ((ts.getD k 0 : Nat) : Int) = TT at *
        generalize xs.getD k .non = A2 at *
        generalize D.tup xs = T at *
        generalize D.lst (ts.map nD) = S at *
        generalize ((k : Nat) : Int) = Kk at *
        unfold jB
        cases Bw <;> simp [var, i1, i2, q]
      have hf := forL_find (b := forB (gnm 2) jB) (i := 2) (d := .bl false) (p := fun x => match x with | .int z => !belowD (ts.getD z.toNat 0) (xs.getD z.toNat .non) | _ => false) (xs := (List.range ts.length).map fun i => .int ((i : Nat) : Int)) (e := [some (.lst (ts.map nD)), some (.tup xs), none])
        (fun x hx o => by
          obtain ⟨k, hk, rfl⟩ := List.mem_map.mp hx
          have hk2 : k < ts.length := by simpa using hk
          have := body k hk2 o
          simpa using this)
        (fun x hx => by
          obtain ⟨k, hk, rfl⟩ := List.mem_map.mp hx
          have hk2 : k < ts.length := by simpa using hk
          have := body k hk2 none
          simpa using this)
      obtain ⟨f1, f2⟩ := hf
      have ha : ((List.range ts.length).map fun i => D.int ((i : Nat) : Int)).any (fun x => match x with | .int z => !belowD (ts.getD z.toNat 0) (xs.getD z.toNat .non) | _ => false) = !judge ts (.tup xs) := by
        rw [judge_tup, decide_eq_true e, Bool.true_and, List.any_map, List.not_all_eq_any_not]
        rfl
      rw [ha] at f1 f2
      rw [decide_eq_true e] at h3
      unfold jB at f1 f2
      cases hj : judge ts (.tup xs) with
      | true =>
        rw [hj] at f1 f2
        obtain ⟨o, q, _⟩ := f2 rfl
        generalize D.tup xs = T at *
        generalize D.lst (ts.map nD) = S at *
        generalize nD xs.length = N1 at *
        generalize nD ts.length = N2 at *
        simp only [seq_eq, ite_eq, orT_eq, notT_eq, tst_eq, un_eq, bin_eq, var, List.getElem?_cons_zero, List.getElem?_cons_succ, bind_ok, e0, h1, h2, h3, truthy_b, Bool.not_true, Bool.not_false, List.replicate, Bool.false_eq_true, if_false, skip_eq, for_eq, hr, q, ret_eq, cst_eq, done_ret]
      | false =>
        rw [hj] at f1 f2
        have q := f1 rfl
        generalize D.tup xs = T at *
        generalize D.lst (ts.map nD) = S at *
        generalize nD xs.length = N1 at *
        generalize nD ts.length = N2 at *
        simp only [seq_eq, ite_eq, orT_eq, notT_eq, tst_eq, un_eq, bin_eq, var, List.getElem?_cons_zero, List.getElem?_cons_succ, bind_ok, e0, h1, h2, h3, truthy_b, Bool.not_true, Bool.not_false, List.replicate, Bool.false_eq_true, if_false, skip_eq, for_eq, hr, q, ret_eq, cst_eq, done_ret]
    · have hj : judge ts (.tup xs) = false := by
        rw [judge_tup, decide_eq_false e, Bool.false_and]
      rw [hj]
      rw [decide_eq_false e] at h3
      generalize D.tup xs = T at *
      generalize D.lst (ts.map nD) = S at *
      generalize nD xs.length = N1 at *
      generalize nD ts.length = N2 at *
      simp [var, e0, h1, h2, h3]
end Py.U

namespace Py.U
open PySem
/-! ### a value is alike itself -/
def row1 : D := rowD 1 [] 0
def AL : Nat → D → Prop
  | 0, _ => False
  | k + 1, d => match d with
    | .tup xs => xs.length ≤ 1000 ∧ ∀ x ∈ xs, AL k x
    | .lst xs => xs.length ≤ 1000 ∧ ∀ x ∈ xs, AL k x
    | .ins c fs => D.ins c fs = row1
    | .dic _ => False
    | _ => True
theorem AL.gd {k : Nat} {d : D} (h : AL (k + 1) d) : gd d = true := by
  cases d with
  | ins c fs =>
    have e : D.ins c fs = row1 := h
    rw [e]
    rfl
  | _ => rfl
theorem AL.okd {k : Nat} {d : D} (h : AL (k + 2) d) : Okd d := by
  refine ⟨h.gd, fun xs e => ?_⟩
  subst e
  have h' : xs.length ≤ 1000 ∧ ∀ x ∈ xs, AL (k + 1) x := h
  exact ⟨fun x hx => (h'.2 x hx).gd, h'.1⟩
def aL (f : List D → Res D) : SM := (for_ (irng1 (un blen (var 1))) (gnm 2) (Py.ite (notT (tst (call f (argC (bin oidx (var 0) (var 2)) (argC (bin oidx (var 1) (var 2)) argN))))) (ret (cst (.bl false))) skip))
theorem aL_ok {f : List D → Res D} {d : D} {xs : List D} (hd : d = .tup xs ∨ d = .lst xs) (hz : xs.length ≤ 1000) (h : ∀ x ∈ xs, f [x, x] = .ok (.bl true)) (o : Option D) : ∃ o', aL f [some d, some d, o] = .ok (.next [some d, some d, o']) := by
  have hl : blen d = .ok (.int (xs.length : Int)) := by
    rcases hd with rfl | rfl <;> simp
  have hi : ∀ k, (hk : k < xs.length) → oidx d (.int ((k : Nat) : Int)) = .ok xs[k] := fun k hk => by
    rcases hd with rfl | rfl
    · exact oidx_t (by simp [hk])
    · exact oidx_l (by simp [hk])
  clear hd
  obtain ⟨e', h1, o', h2⟩ := forR_inv (b := forB (gnm 2) (Py.ite (notT (tst (call f (argC (bin oidx (var 0) (var 2)) (argC (bin oidx (var 1) (var 2)) argN))))) (ret (cst (.bl false))) skip)) (n := xs.length) (e := [some d, some d, o])
    (fun _ e => ∃ o', e = [some d, some d, o']) ⟨o, rfl⟩ fun i e hi2 ⟨o1, he⟩ => by
      subst he
      have q := hi i hi2
      have q2 := h _ (List.getElem_mem hi2)
      generalize xs[i] = x at *
      generalize ((i : Nat) : Int) = I at *
      exact ⟨[some d, some d, some (.int I)], by simp [var, q, q2], _, rfl⟩
  subst h2
  refine ⟨o', ?_⟩
  unfold aL
  rw [for_eq, irng1_nat (n := xs.length) (by simp [var, hl]) (rng_lt hz), bind_ok]
  exact h1
def aB (f : List D → Res D) : SM := (seq (Py.ite (tst (un (oisi CS [.lst, .tup]) (var 1))) (seq (Py.ite (orT (notT (tst (un (oisi CS [.lst, .tup]) (var 0)))) (tst (bin Py.one (un (oisi CS [.lst]) (var 0)) (un (oisi CS [.lst]) (var 1))))) (ret (cst (.bl false))) skip)
  (seq (Py.ite (tst (bin Py.one (un blen (var 0)) (un blen (var 1)))) (ret (cst (.bl false))) skip)
  (seq (aL f)
  (ret (cst (.bl true)))))) skip)
  (seq (Py.ite (tst (un oisN (var 1))) (ret (un oisN (var 0))) skip)
  (seq (Py.ite (tst (un (oisi CS [(.cls "Row")]) (var 1))) (ret (andE (un (oisi CS [(.cls "Row")]) (var 0)) (andE (bin oeq (un (oattr ["Row"] "inputs") (var 0)) (un (oattr ["Row"] "inputs") (var 1))) (andE (bin oeq (un (oattr ["Row"] "deeds") (var 0)) (un (oattr ["Row"] "deeds") (var 1))) (bin oeq (un (oattr ["Row"] "out") (var 0)) (un (oattr ["Row"] "out") (var 1))))))) skip)
  (seq (Py.ite (orT (tst (un (oisi CS [.bl]) (var 1))) (tst (un (oisi CS [.bl]) (var 0)))) (ret (andE (un (oisi CS [.bl]) (var 1)) (andE (un (oisi CS [.bl]) (var 0)) (bin oeq (var 0) (var 1))))) skip)
  (seq (Py.ite (tst (un (oisi CS [.str]) (var 1))) (ret (andE (un (oisi CS [.str]) (var 0)) (bin oeq (var 0) (var 1)))) skip)
  (ret (andE (un (oisi CS [.int]) (var 0)) (bin oeq (var 0) (var 1)))))))))
theorem alike_succ (k : Nat) : m_law_alike (k + 1) = fn 2 3 (aB (m_law_alike k)) := rfl
theorem alike_refl : ∀ (k : Nat) (d : D), AL k d → m_law_alike k [d, d] = .ok (.bl true)
  | 0, _, h => h.elim
  | k + 1, d, h => by
    have g := h.gd
    have e1 := isi_any (ts := [.lst, .tup]) g rfl
    have e2 := isi_any (ts := [.lst]) g rfl
    have e3 := isi_any (ts := [.cls "Row"]) g rfl
    have e4 := isi_any (ts := [.bl]) g rfl
    have e5 := isi_any (ts := [.str]) g rfl
    have e6 := isi_any (ts := [.int]) g rfl
    rw [alike_succ, fn2]
    have seqs : ∀ xs, (d = .tup xs ∨ d = .lst xs) → xs.length ≤ 1000 → (∀ x ∈ xs, AL k x) → done (aB (m_law_alike k) (some d :: some d :: List.replicate (3 - 2) none)) = .ok (.bl true) := fun xs hd hz ha => by
      obtain ⟨o', q⟩ := aL_ok hd hz (fun x hx => alike_refl k x (ha x hx)) none
      have hl : blen d = .ok (.int (xs.length : Int)) := by
        rcases hd with rfl | rfl <;> simp
      have t1 : oisi CS [.lst, .tup] d = .ok (.bl true) := by
        rcases hd with rfl | rfl <;> exact e1
      have t2 : ∃ b, oisi CS [.lst] d = .ok (.bl b) := ⟨_, e2⟩
      obtain ⟨b, t2⟩ := t2
      have t3 : Py.one (.bl b) (.bl b) = .ok (.bl false) := by cases b <;> rfl
      clear hd e1 e2 e3 e4 e5 e6 g h
      unfold aB
      simp [var, t1, t2, t3, hl, q]
    cases d with
    | tup xs =>
      have h' : xs.length ≤ 1000 ∧ ∀ x ∈ xs, AL k x := h
      exact seqs xs (.inl rfl) h'.1 h'.2
    | lst xs =>
      have h' : xs.length ≤ 1000 ∧ ∀ x ∈ xs, AL k x := h
      exact seqs xs (.inr rfl) h'.1 h'.2
    | dic xs => exact (show False from h).elim
    | ins c fs =>
      have h' : D.ins c fs = row1 := h
      rw [h'] at e1 e2 e3 e4 e5 e6 ⊢
      have a1 : oattr ["Row"] "inputs" row1 = .ok (.int 1) := rfl
      have a2 : oattr ["Row"] "deeds" row1 = .ok (.tup []) := rfl
      have a3 : oattr ["Row"] "out" row1 = .ok (.int 0) := rfl
      have a4 : oeq (.tup []) (.tup []) = .ok (.bl true) := rfl
      have n1 : oisN row1 = .ok (.bl false) := rfl
      have n2 : oisi CS [.lst, .tup] row1 = .ok (.bl false) := rfl
      have n3 : oisi CS [.cls "Row"] row1 = .ok (.bl true) := rfl
      unfold aB
      generalize row1 = R at *
      simp [var, n1, n2, n3, a1, a2, a3, a4]
    | non =>
      have n1 : oisN .non = .ok (.bl true) := rfl
      have n2 : oisi CS [.lst, .tup] .non = .ok (.bl false) := rfl
      unfold aB
      simp [var, n1, n2]
    | bl b =>
      have n1 : oisN (.bl b) = .ok (.bl false) := rfl
      have n2 : oisi CS [.lst, .tup] (.bl b) = .ok (.bl false) := rfl
      have n3 : oisi CS [.cls "Row"] (.bl b) = .ok (.bl false) := rfl
      have n4 : oisi CS [.bl] (.bl b) = .ok (.bl true) := rfl
      have n5 : oeq (.bl b) (.bl b) = .ok (.bl true) := by cases b <;> rfl
      unfold aB
      simp [var, n1, n2, n3, n4, n5]
    | int z =>
      have n1 : oisN (.int z) = .ok (.bl false) := rfl
      have n2 : oisi CS [.lst, .tup] (.int z) = .ok (.bl false) := rfl
      have n3 : oisi CS [.cls "Row"] (.int z) = .ok (.bl false) := rfl
      have n4 : oisi CS [.bl] (.int z) = .ok (.bl false) := rfl
      have n5 : oisi CS [.str] (.int z) = .ok (.bl false) := rfl
      have n6 : oisi CS [.int] (.int z) = .ok (.bl true) := rfl
      unfold aB
      simp [var, n1, n2, n3, n4, n5, n6]
    | str s =>
      have n1 : oisN (.str s) = .ok (.bl false) := rfl
      have n2 : oisi CS [.lst, .tup] (.str s) = .ok (.bl false) := rfl
      have n3 : oisi CS [.cls "Row"] (.str s) = .ok (.bl false) := rfl
      have n4 : oisi CS [.bl] (.str s) = .ok (.bl false) := rfl
      have n5 : oisi CS [.str] (.str s) = .ok (.bl true) := rfl
      have n6 : oeq (.str s) (.str s) = .ok (.bl true) := by rw [str_eq]; simp
      unfold aB
      simp [var, n1, n2, n3, n4, n5, n6]
/-! ### errors -/
theorem tryE_exc {es : List String} {i : Nat} {b : SM} {h : String → List (String × D) → SM} {e : Env} {c : String} {fs : List (String × D)} {d : D} (h1 : b e = .exc c fs) (h2 : (es.contains c && decide (i < e.length)) = true) (h3 : h c fs (e.set i none) = .ok (.ret d)) : tryE es i b h e = .ok (.ret d) := by
  unfold tryE
  rw [h1]
  dsimp only
  rw [if_pos h2, h3]
@[simp] theorem done_exc (c : String) (fs : List (String × D)) : done (.exc c fs) = .exc c fs := rfl
theorem rais_1 {c f : String} {m : EM} {e : Env} {d : D} (h : m e = .ok d) : rais c [f] (argC m argN) e = .exc c [(f, d)] := by
  unfold rais
  simp [h]
theorem step_marks {n out : Nat} {xs : List Deed} {v l : D} (hv : Okd v) (hz : xs.length ≤ 1000) (hj : judge (tops xs) v = false) : m_mark_step [rowD n xs out, v, l] = .exc "InvalidMarks" [("value", v)] := by
  have h1 := is_marks_any (n := n) (out := out) hv hz
  rw [hj] at h1
  unfold m_mark_step
  rw [fn3]
  unfold b_mark_step
  generalize rowD n xs out = R at *
  have hr : rais "InvalidMarks" ["value"] (argC (var 1) argN) [some R, some v, some l] = .exc "InvalidMarks" [("value", v)] := rais_1 (by simp [var])
  simp [var, h1, hr]
theorem step_number {n out : Nat} {xs : List Deed} {v l : D} (hv : Okd v) (hn : n ≤ 1000) (hz : xs.length ≤ 1000) (hj : judge (tops xs) v = true) (hl : gd l = true) (hb : belowD (2 ^ n) l = false) : m_mark_step [rowD n xs out, v, l] = .exc "InvalidNumber" [("value", l)] := by
  have h1 := is_marks_any (n := n) (out := out) hv hz
  rw [hj] at h1
  have h2 := below_any hl (2 ^ n)
  rw [hb] at h2
  have h3 := row_inputs n xs out
  have h4 := shl_nD hn
  unfold m_mark_step
  rw [fn3]
  unfold b_mark_step
  generalize rowD n xs out = R at *
  generalize nD (2 ^ n) = TP at *
  have hr : rais "InvalidNumber" ["value"] (argC (var 2) argN) [some R, some v, some l] = .exc "InvalidNumber" [("value", l)] := rais_1 (by simp [var])
  simp [var, h1, h2, h3, h4, hr]
theorem drop_exc {f : List D → Res D} {a : AM} {e : Env} {ds : List D} {c : String} {fs : List (String × D)} (h1 : a e = .ok ds) (h2 : f ds = .exc c fs) : Py.drop (call f a) e = .exc c fs := by
  rw [drop_eq, call_eq, h1, bind_ok, h2]
  rfl
theorem refused_marks {R v l : D} (ha : AL 12 v) (hs : m_mark_step [R, v, l] = .exc "InvalidMarks" [("value", v)]) : m_law_step_refused [R, v, l, .bl true] = .ok (.bl true) := by
  have al := alike_refl 12 v ha
  unfold m_law_step_refused
  rw [fn4]
  unfold b__law_step_refused
  rw [seq_eq]
  rw [tryE_exc (d := .bl true) (drop_exc (ds := [R, v, l]) (by simp [var]) hs) rfl ?_]
  · rfl
  · have x1 : ∀ e, xis ES EALL "InvalidMarks" ["InvalidWords", "InvalidReading", "InvalidMachine", "InvalidRow", "InvalidKind", "InvalidPrimes"] e = .ok (.bl false) := fun _ => rfl
    have x2 : ∀ e, xis ES EALL "InvalidMarks" ["InvalidText", "InvalidCommand", "Undefined", "NothingToDo", "NothingKept"] e = .ok (.bl false) := fun _ => rfl
    have x3 : ∀ e, xis ES EALL "InvalidMarks" ["InvalidMarks"] e = .ok (.bl true) := fun _ => rfl
    have x4 : ∀ e, xis ES EALL "InvalidMarks" ["InvalidNumber"] e = .ok (.bl false) := fun _ => rfl
    have x5 : ∀ e, xis ES EALL "InvalidMarks" ["ValueError"] e = .ok (.bl true) := fun _ => rfl
    have x6 : ∀ e, xfld ES EFL "InvalidMarks" "value" [("value", v)] e = .ok v := fun _ => rfl
    have y1 : Py.one (.bl true) (.bl true) = .ok (.bl false) := rfl
    have y2 : oeq (.bl false) (.bl true) = .ok (.bl false) := rfl
    generalize m_law_alike 12 = F at *
    simp only [seq_eq, ite_eq, orT_eq, tst_eq, bin_eq, x1, x2, x3, x4, bind_ok, truthy_b, Bool.false_eq_true, if_false, skip_eq, var, List.set, List.getElem?_cons_succ, List.getElem?_cons_zero, List.replicate, y1, y2, if_true, ret_eq, andE_eq, x5, call_eq, argC_eq, argN_eq, x6, al, if_pos]
theorem refused_number {R v l : D} (ha : AL 12 l) (hs : m_mark_step [R, v, l] = .exc "InvalidNumber" [("value", l)]) : m_law_step_refused [R, v, l, .bl false] = .ok (.bl true) := by
  have al := alike_refl 12 l ha
  unfold m_law_step_refused
  rw [fn4]
  unfold b__law_step_refused
  rw [seq_eq]
  rw [tryE_exc (d := .bl true) (drop_exc (ds := [R, v, l]) (by simp [var]) hs) rfl ?_]
  · rfl
  · have x1 : ∀ e, xis ES EALL "InvalidNumber" ["InvalidWords", "InvalidReading", "InvalidMachine", "InvalidRow", "InvalidKind", "InvalidPrimes"] e = .ok (.bl false) := fun _ => rfl
    have x2 : ∀ e, xis ES EALL "InvalidNumber" ["InvalidText", "InvalidCommand", "Undefined", "NothingToDo", "NothingKept"] e = .ok (.bl false) := fun _ => rfl
    have x3 : ∀ e, xis ES EALL "InvalidNumber" ["InvalidMarks"] e = .ok (.bl false) := fun _ => rfl
    have x4 : ∀ e, xis ES EALL "InvalidNumber" ["InvalidNumber"] e = .ok (.bl true) := fun _ => rfl
    have x5 : ∀ e, xis ES EALL "InvalidNumber" ["ValueError"] e = .ok (.bl true) := fun _ => rfl
    have x6 : ∀ e, xfld ES EFL "InvalidNumber" "value" [("value", l)] e = .ok l := fun _ => rfl
    have y1 : Py.one (.bl false) (.bl false) = .ok (.bl false) := rfl
    have y2 : oeq (.bl true) (.bl false) = .ok (.bl false) := rfl
    generalize m_law_alike 12 = F at *
    simp only [seq_eq, ite_eq, orT_eq, tst_eq, bin_eq, x1, x2, x3, x4, bind_ok, truthy_b, Bool.false_eq_true, if_false, skip_eq, var, List.set, List.getElem?_cons_succ, List.getElem?_cons_zero, List.replicate, y1, y2, if_true, ret_eq, andE_eq, x5, call_eq, argC_eq, argN_eq, x6, al, if_pos]
/-! ### readings -/
def isRd (n : Nat) : D → Bool
  | .tup xs => xs.all (belowD (2 ^ n))
  | _ => false
theorem isRd_not {v : D} (h : isI .tup v = false) (n : Nat) : isRd n v = false := by
  cases v <;> first | rfl | simp [isI] at h
theorem reading_any {v : D} {n : Nat} (hv : Okd v) (hn : n ≤ 1000) : m_is_reading [v, nD n] = .ok (.bl (isRd n v)) := by
  have e0 := isi_any (ts := [.tup]) hv.top rfl
  simp only [List.any_cons, List.any_nil, Bool.or_false] at e0
  unfold m_is_reading
  rw [fn2]
  unfold b_is_reading
  cases hi : isI .tup v with
  | false =>
    rw [hi] at e0
    rw [isRd_not hi]
    generalize nD n = N at *
    simp [var, e0]
  | true =>
    obtain ⟨xs, rfl⟩ := isI_tup hi
    obtain ⟨hg, hl⟩ := hv.mem xs rfl
    rw [hi] at e0
    have h4 := shl_nD hn
    have hc : ∀ a, lcE (iseq (var 0)) [2] (gnm 2) yes (call m_is_below (argC (var 2) (argC (bin oshl (cst (.int 1)) (var 1)) argN))) [some (.tup xs), some (nD n), a] = .ok (.lst (xs.map fun x => .bl (belowD (2 ^ n) x))) := fun a => by
      refine lc_mapI (ys := xs) (k := fun x => x) (by simp [var]) (le_sz hl) fun x hx => ?_
      have q := below_any (hg x hx) (2 ^ n)
      generalize belowD (2 ^ n) x = Bw at *
      generalize nD (2 ^ n) = TP at *
      generalize nD n = N at *
      generalize D.tup xs = T at *
      exact ⟨_, rfl, by simp only [wipe]; simp [var, q, h4]⟩
    have hb : ball (.lst (xs.map fun x => D.bl (belowD (2 ^ n) x))) = .ok (.bl (isRd n (.tup xs))) := by
      have := ball_bools (xs.map (belowD (2 ^ n)))
      rw [List.map_map] at this
      refine this.trans ?_
      rw [List.all_map]
      rfl
    generalize D.lst (xs.map fun x => D.bl (belowD (2 ^ n) x)) = Z at *
    generalize isRd n (.tup xs) = J at *
    generalize nD n = N at *
    generalize D.tup xs = T at *
    simp [var, e0, hc, hb]
theorem after_exc {n out : Nat} {xs : List Deed} {v : D} (hv : Okd v) (hn : n ≤ 1000) (hj : isRd n v = false) : m_marks_after [rowD n xs out, v] = .exc "InvalidReading" [("value", v)] := by
  have h1 := reading_any hv hn
  rw [hj] at h1
  have h3 := row_inputs n xs out
  unfold m_marks_after
  rw [fn2]
  unfold b_marks_after
  generalize rowD n xs out = R at *
  generalize nD n = N at *
  have hr : ∀ a b, rais "InvalidReading" ["value"] (argC (var 1) argN) [some R, some v, a, b] = .exc "InvalidReading" [("value", v)] := fun a b => rais_1 (by simp [var])
  simp [var, h1, h3, hr]
theorem refused_reading {R v : D} (ha : AL 12 v) (hs : m_marks_after [R, v] = .exc "InvalidReading" [("value", v)]) : m_law_reading_refused [R, v] = .ok (.bl true) := by
  have al := alike_refl 12 v ha
  unfold m_law_reading_refused
  rw [fn2]
  unfold b__law_reading_refused
  rw [seq_eq]
  rw [tryE_exc (d := .bl true) (drop_exc (ds := [R, v]) (by simp [var]) hs) rfl ?_]
  · rfl
  · have x1 : ∀ e, xis ES EALL "InvalidReading" ["InvalidWords", "InvalidNumber", "InvalidMachine", "InvalidRow", "InvalidMarks", "InvalidKind"] e = .ok (.bl false) := fun _ => rfl
    have x2 : ∀ e, xis ES EALL "InvalidReading" ["InvalidPrimes", "InvalidText", "InvalidCommand", "Undefined", "NothingToDo", "NothingKept"] e = .ok (.bl false) := fun _ => rfl
    have x3 : ∀ e, xis ES EALL "InvalidReading" ["InvalidReading"] e = .ok (.bl true) := fun _ => rfl
    have x5 : ∀ e, xis ES EALL "InvalidReading" ["ValueError"] e = .ok (.bl true) := fun _ => rfl
    have x6 : ∀ e, xfld ES EFL "InvalidReading" "value" [("value", v)] e = .ok v := fun _ => rfl
    generalize m_law_alike 12 = F at *
    simp only [seq_eq, ite_eq, tst_eq, x1, x2, x3, bind_ok, truthy_b, Bool.false_eq_true, if_false, skip_eq, var, List.set, List.getElem?_cons_succ, List.getElem?_cons_zero, List.replicate, ret_eq, andE_eq, x5, call_eq, argC_eq, argN_eq, x6, al]
end Py.U

namespace Py.U
open PySem
/-! ### walking a long body -/
theorem chk_pass {c : TM} {r b : SM} {e : Env} (h : c e = .ok false) : seq (Py.ite c b skip) r e = r e := by
  refine seq_next ?_
  unfold Py.ite
  rw [h, bind_ok]
  rfl
theorem asg_pass {i : Nat} {m : EM} {r : SM} {e : Env} {d : D} (h : m e = .ok d) : seq (asg (gnm i) m) r e = r (e.set i (some d)) := by
  refine seq_next ?_
  rw [asg_eq, h]
  rfl
theorem for_pass {it : IM} {g : GM} {b r : SM} {e e' : Env} {xs : List D} (h : it e = .ok xs) (h2 : forL (forB g b) xs e = .ok (.next e')) : seq (for_ it g b) r e = r e' := by
  refine seq_next ?_
  rw [for_eq, h]
  exact h2
/-! ### what is drawn -/
theorem drawn1 {ds : List Int} {a : Int} (h : Drawn ds [a]) : ∃ x, ds = [x] ∧ 0 ≤ x ∧ x < a := by
  match ds, h with
  | [x], ⟨h1, _⟩ => exact ⟨x, rfl, h1⟩
theorem drawn5 {ds : List Int} {a b c d e : Int} (h : Drawn ds [a, b, c, d, e]) : ∃ x y z u v, ds = [x, y, z, u, v] ∧ (0 ≤ x ∧ x < a) ∧ (0 ≤ y ∧ y < b) ∧ (0 ≤ z ∧ z < c) ∧ (0 ≤ u ∧ u < d) ∧ 0 ≤ v ∧ v < e := by
  match ds, h with
  | [x, y, z, u, v], ⟨h1, h2, h3, h4, h5, _⟩ => exact ⟨x, y, z, u, v, rfl, h1, h2, h3, h4, h5⟩
theorem drawn8 {ds : List Int} {a b c d e f g h : Int} (H : Drawn ds [a, b, c, d, e, f, g, h]) : ∃ x0 x1 x2 x3 x4 x5 x6 x7, ds = [x0, x1, x2, x3, x4, x5, x6, x7] ∧ (0 ≤ x0 ∧ x0 < a) ∧ (0 ≤ x1 ∧ x1 < b) ∧ (0 ≤ x3 ∧ x3 < d) ∧ (0 ≤ x4 ∧ x4 < e) ∧ (0 ≤ x5 ∧ x5 < f) := by
  match ds, H with
  | [x0, x1, x2, x3, x4, x5, x6, x7], ⟨h0, h1, _, h3, h4, h5, _, _, _⟩ => exact ⟨x0, x1, x2, x3, x4, x5, x6, x7, rfl, h0, h1, h3, h4, h5⟩
section
variable {a b c d e f g h : D}
theorem ix20 : oidx (.lst [a, b]) (.int 0) = .ok a := rfl
theorem ix21 : oidx (.lst [a, b]) (.int 1) = .ok b := rfl
theorem ix50 : oidx (.lst [a, b, c, d, e]) (.int 0) = .ok a := rfl
theorem ix51 : oidx (.lst [a, b, c, d, e]) (.int 1) = .ok b := rfl
theorem ix52 : oidx (.lst [a, b, c, d, e]) (.int 2) = .ok c := rfl
theorem ix53 : oidx (.lst [a, b, c, d, e]) (.int 3) = .ok d := rfl
theorem ix54 : oidx (.lst [a, b, c, d, e]) (.int 4) = .ok e := rfl
theorem ix80 : oidx (.lst [a, b, c, d, e, f, g, h]) (.int 0) = .ok a := rfl
theorem ix81 : oidx (.lst [a, b, c, d, e, f, g, h]) (.int 1) = .ok b := rfl
theorem ix82 : oidx (.lst [a, b, c, d, e, f, g, h]) (.int 2) = .ok c := rfl
theorem ix83 : oidx (.lst [a, b, c, d, e, f, g, h]) (.int 3) = .ok d := rfl
theorem ix84 : oidx (.lst [a, b, c, d, e, f, g, h]) (.int 4) = .ok e := rfl
theorem ix85 : oidx (.lst [a, b, c, d, e, f, g, h]) (.int 5) = .ok f := rfl
theorem ix86 : oidx (.lst [a, b, c, d, e, f, g, h]) (.int 6) = .ok g := rfl
theorem ix87 : oidx (.lst [a, b, c, d, e, f, g, h]) (.int 7) = .ok h := rfl
end
theorem drawn_deed (c : Int) {n : Nat} (hn : 0 < n) : ∃ x : Deed, x.ok n ∧ ∃ L, m_law_draws [.int c, .lst [.int 14, .int 13, .int 13, .int 3, .int 13, .int 30, .int 4]] = .ok L ∧ m_law_deed [L, nD n] = .ok x.d := by
  obtain ⟨ds, hd, q⟩ := draws_ok c [14, 13, 13, 3, 13, 30, 4] (by simp) (by simp)
  obtain ⟨x0, x1, x2, x3, x4, x5, x6, rfl, b0, b3, b6⟩ := drawn7 hd
  obtain ⟨x, h1, h2⟩ := deed_ok hn x0 x1 x2 x3 x4 x5 x6 b0 b3 b6
  exact ⟨x, h1, _, q, h2⟩
def deedsB : SM := (app 3 (call m_law_deed (argC (call m_law_draws (argC (call m_law_cell (argC (var 0) (argC (bin oadd (cst (.int 4)) (var 4)) argN))) (argC (lstE (argC (cst (.int 14)) (argC (cst (.int 13)) (argC (cst (.int 13)) (argC (cst (.int 3)) (argC (cst (.int 13)) (argC (cst (.int 30)) (argC (cst (.int 4)) argN)))))))) argN))) (argC (bin oadd (var 2) (var 4)) argN))))
abbrev N15 : List (Option D) := [none, none, none, none, none, none, none, none, none, none, none, none, none, none, none]
theorem deeds_loop (ns : List Int) {n m : Nat} (hn : 0 < n) (hm : m ≤ 100) {L : D} : ∃ xs : List Deed, xs.length = m ∧ Row n xs ∧ ∃ o, forL (forB (gnm 4) deedsB) ((List.range m).map fun i => .int ((i : Nat) : Int)) (some (.lst (ns.map .int)) :: some L :: some (nD n) :: some (.lst []) :: none :: N15) = .ok (.next (some (.lst (ns.map .int)) :: some L :: some (nD n) :: some (.lst (xs.map Deed.d)) :: o :: N15)) := by
  obtain ⟨e', h1, xs, o, h2, h3, rfl⟩ := forR_inv (b := forB (gnm 4) deedsB) (n := m) (e := (some (.lst (ns.map .int)) :: some L :: some (nD n) :: some (.lst []) :: none :: N15))
    (fun k e => ∃ (xs : List Deed) (o : Option D), xs.length = k ∧ Row n xs ∧ e = (some (.lst (ns.map .int)) :: some L :: some (nD n) :: some (.lst (xs.map Deed.d)) :: o :: N15)) ⟨[], none, rfl, fun k h => by simp at h, rfl⟩ (by
      rintro k e hk ⟨xs, o, rfl, hr, rfl⟩
      obtain ⟨c, hc⟩ := cell_ok ns (4 + xs.length)
      obtain ⟨x, hx, Q, h1, h2⟩ := drawn_deed c (n := n + xs.length) (by omega)
      have e1 : oadd (.int 4) (.int (xs.length : Int)) = .ok (.int ((4 + xs.length : Nat) : Int)) := nadd 4 xs.length
      have e2 : oadd (nD n) (.int (xs.length : Int)) = .ok (nD (n + xs.length)) := nadd n xs.length
      have z : (xs.map Deed.d).length < SZ := by
        rw [List.length_map]
        exact Nat.lt_trans (show xs.length < 1001 by omega) (by decide)
      refine ⟨(some (.lst (ns.map .int)) :: some L :: some (nD n) :: some (.lst ((xs ++ [x]).map Deed.d)) :: some (.int (xs.length : Int)) :: N15), ?_, xs ++ [x], _, by simp, hr.snoc hx, rfl⟩
      rw [List.map_append, List.map_singleton]
      unfold deedsB N15
      generalize ((4 + xs.length : Nat) : Int) = Z2 at *
      generalize nD (n + xs.length) = N2 at *
      generalize nD n = N at *
      generalize (xs.length : Int) = Z at *
      generalize hX : x.d = X at *
      generalize hL : xs.map Deed.d = XS at *
      generalize ns.map D.int = S at *
      simp [var, hc, h1, h2, e1, e2, z])
  exact ⟨xs, h2, h3, o, h1⟩
/-! ### noughts -/
def Z0 (m : Nat) : D := .tup (List.replicate m (.int 0))
theorem Z0_AL (m : Nat) (h : m ≤ 1000) (k : Nat) : AL (k + 2) (Z0 m) := by
  show (List.replicate m (D.int 0)).length ≤ 1000 ∧ ∀ x ∈ List.replicate m (D.int 0), AL (k + 1) x
  refine ⟨by simp [h], fun x hx => ?_⟩
  rw [(List.mem_replicate.mp hx).2]
  trivial
theorem rep0 {m : Nat} (h : m ≤ 1000) : otrep (.tup [.int 0]) (.int (m : Int)) = .ok (Z0 m) := by
  have e : otrep (.tup [.int 0]) (.int (m : Int)) = .ok (.tup (List.replicate ((m : Int)).toNat [D.int 0]).flatten) := if_pos ⟨by simp, by omega⟩
  rw [e, Int.toNat_natCast]
  unfold Z0
  congr 2
  clear h e
  induction m with
  | zero => rfl
  | succ m ih =>
    rw [List.replicate_succ, List.flatten_cons, ih, List.replicate_succ]
    rfl
theorem first_zero {n out : Nat} {xs : List Deed} (hz : xs.length ≤ 1000) : m_first_marks [rowD n xs out] = .ok (Z0 (tops xs).length) := by
  have h1 := mark_deeds_ok (n := n) (out := out) hz
  have hl : (xs.filter Deed.marked).length ≤ 1000 := Nat.le_trans (List.length_filter_le _ _) hz
  have hc : ∀ a, lcE (iseq (call m_mark_deeds (argC (var 0) argN))) [1] (gnm 1) yes (cst (.int 0)) [some (rowD n xs out), a] = .ok (.lst ((xs.filter Deed.marked).map fun _ => .int 0)) := fun a => by
    refine lc_mapI (ys := xs.filter Deed.marked) (k := Deed.d) (by simp [var, h1]) (le_sz hl) fun x hx => ?_
    exact ⟨_, rfl, rfl⟩
  have e : (xs.filter Deed.marked).map (fun _ => D.int 0) = List.replicate (tops xs).length (.int 0) := by
    unfold tops
    rw [List.length_map, List.map_const']
  rw [e] at hc
  unfold m_first_marks
  rw [fn1]
  unfold b_first_marks Z0
  generalize rowD n xs out = R at *
  generalize List.replicate (tops xs).length (D.int 0) = Zs at *
  simp [hc]
/-! ### the tops -/
def topsB : SM := (seq (Py.ite (tst (bin oin (bin oidx (var 2) (cst (.int 0))) (lstE (argC (cst (.str "shift")) (argC (cst (.str "minus")) (argC (cst (.str "add")) (argC (cst (.str "sub")) argN))))))) (app 1 (cst (.int 2))) skip)
  (Py.ite (tst (bin oeq (bin oidx (var 2) (cst (.int 0))) (cst (.str "count")))) (app 1 (bin oidx (var 2) (cst (.int 1)))) skip))
theorem four_in (x : Deed) : oin (.str x.name) (.lst [.str "shift", .str "minus", .str "add", .str "sub"]) = .ok (.bl (x.marked && !x.isCount)) := by cases x <;> rfl
theorem count_marked {x : Deed} (h : x.isCount = true) : x.marked = true := by cases x <;> first | rfl | simp [Deed.isCount] at h
theorem tops_ok {xs : List Deed} (hz : xs.length ≤ 1000) : m_law_tops [.lst (xs.map Deed.d)] = .ok (.lst ((tops xs).map nD)) := by
  have q := forL_inv (b := forB (gnm 2) topsB) (xs := xs.map Deed.d) (e := [some (.lst (xs.map Deed.d)), some (.lst []), none])
    (fun k e => ∃ o, e = [some (.lst (xs.map Deed.d)), some (.lst ((tops (xs.take k)).map nD)), o]) 0 ⟨none, by simp [tops]⟩ (by
      rintro k e hk ⟨o, rfl⟩
      have hk' : k < xs.length := by simpa using hk
      rw [Nat.zero_add, List.getElem_map]
      have ht : xs.take (k + 1) = xs.take k ++ [xs[k]] := by
        rw [List.take_add_one]
        simp [hk']
      have hs : ((tops (xs.take k)).map nD).length < SZ := by
        have := tops_len (xs.take k)
        rw [List.length_map]
        have h3 : (xs.take k).length ≤ 1000 := Nat.le_trans (by simp; omega) hz
        exact Nat.lt_of_le_of_lt (Nat.le_trans this h3) (by decide)
      have n0 := deed_name xs[k]
      have n1 := four_in xs[k]
      have n2 := count_first xs[k]
      rw [ht, tops_snoc]
      refine ⟨[some (.lst (xs.map Deed.d)), some (.lst ((if xs[k].marked then tops (xs.take k) ++ [xs[k].top] else tops (xs.take k)).map nD)), some xs[k].d], ?_, _, rfl⟩
      clear ht
      generalize xs[k] = x at *
      clear hk
      generalize xs.map Deed.d = XS at *
      generalize tops (xs.take k) = T at *
      unfold topsB
      cases hc : x.isCount with
      | true =>
        have hm := count_marked hc
        have n3 := top_count hc
        rw [hm, hc] at n1
        rw [hc] at n2
        rw [hm, if_pos rfl, List.map_append, List.map_singleton]
        generalize x.d = X at *
        generalize nD x.top = TP at *
        generalize x.name = NM at *
        generalize T.map nD = TN at *
        simp [var, n0, n1, n2, n3, hs]
      | false =>
        have n3 := top_plain hc
        rw [hc] at n1 n2
        rw [n3]
        cases hm : x.marked with
        | true =>
          rw [hm] at n1
          rw [if_pos rfl, List.map_append, List.map_singleton]
          have t2 : nD 2 = .int 2 := rfl
          rw [t2]
          generalize x.d = X at *
          generalize x.name = NM at *
          generalize T.map nD = TN at *
          simp [var, n0, n1, n2, hs]
        | false =>
          rw [hm] at n1
          rw [if_neg (by decide)]
          generalize x.d = X at *
          generalize x.name = NM at *
          generalize T.map nD = TN at *
          simp [var, n0, n1, n2])
  obtain ⟨e', h1, o, rfl⟩ := q
  rw [List.length_map, Nat.zero_add, List.take_length] at h1
  unfold m_law_tops
  rw [fn1]
  unfold b__law_tops
  unfold topsB at h1
  generalize xs.map Deed.d = XS at *
  generalize (tops xs).map nD = TN at *
  simp [var, h1]
/-! ### marks after a reading -/
theorem after_any {n out : Nat} {xs : List Deed} (hr : Row n xs) (hz : n + xs.length ≤ 1000) {ls : List Nat} (hlt : ∀ l ∈ ls, l < 2 ^ n) (hlz : ls.length ≤ 1000) : ∃ ms : List Nat, Fit ms (tops xs) ∧ m_marks_after [rowD n xs out, .tup (ls.map nD)] = .ok (.tup (ms.map nD)) := by
  have h1 := reading_ok (n := n) (by omega) hlt hlz
  have h2 := row_inputs n xs out
  have h3 := first_zero (n := n) (out := out) (xs := xs) (by omega)
  have hfit0 : Fit (List.replicate (tops xs).length 0) (tops xs) := by
    have hp : ∀ t ∈ tops xs, 0 < t := fun t ht => (tops_le hr t ht).1
    clear h1 h2 h3
    generalize tops xs = T at *
    induction T with
    | nil => trivial
    | cons t T ih => exact ⟨hp t List.mem_cons_self, ih fun u hu => hp u (List.mem_cons_of_mem _ hu)⟩
  have hz0 : Z0 (tops xs).length = .tup ((List.replicate (tops xs).length 0).map nD) := by
    unfold Z0
    rw [List.map_replicate]
    rfl
  rw [hz0] at h3
  have q := forL_inv (b := forB (gnm 3) (asg (gnm 2) (bin oidx (call m_place_step (argC (var 0) (argC (var 2) (argC (var 3) argN)))) (cst (.int 1))))) (xs := ls.map nD) (e := [some (rowD n xs out), some (.tup (ls.map nD)), some (.tup ((List.replicate (tops xs).length 0).map nD)), none])
    (fun k e => ∃ ms o, Fit ms (tops xs) ∧ e = [some (rowD n xs out), some (.tup (ls.map nD)), some (.tup (ms.map nD)), o]) 0 ⟨_, none, hfit0, rfl⟩ (by
      rintro k e hk ⟨ms, o, hf, rfl⟩
      have hk' : k < ls.length := by simpa using hk
      have q1 := place_ok (out := out) ls[k] hf hr hz
      have q2 : ∀ a b : D, oidx (.tup [a, b]) (.int 1) = .ok b := fun _ _ => rfl
      rw [List.getElem_map]
      refine ⟨[some (rowD n xs out), some (.tup (ls.map nD)), some (.tup ((runD ms (lb n ls[k]) xs).2.map nD)), some (nD ls[k])], ?_, _, _, runD_fit ls[k] hf hr hz, rfl⟩
      generalize rowD n xs out = R at *
      generalize nD ls[k] = L at *
      generalize D.tup ((runD ms (lb n ls[k]) xs).2.map nD) = t1 at *
      generalize D.tup ((runD ms (lb n ls[k]) xs).1.map nD) = t2 at *
      generalize D.tup (ms.map nD) = t3 at *
      generalize D.tup (ls.map nD) = t4 at *
      simp [var, q1, q2])
  obtain ⟨e', h4, ms, o, hf, rfl⟩ := q
  refine ⟨ms, hf, ?_⟩
  unfold m_marks_after
  rw [fn2]
  unfold b_marks_after
  generalize rowD n xs out = R at *
  generalize D.tup (ms.map nD) = t1 at *
  generalize D.tup ((List.replicate (tops xs).length 0).map nD) = t2 at *
  generalize ls.map nD = t4 at *
  generalize nD n = N at *
  simp [var, h1, h2, h3, h4]
theorem fit_judge {ms ts : List Nat} (h : Fit ms ts) : judge ts (.tup (ms.map nD)) = true := by
  rw [judge_tup, List.length_map, h.len, decide_eq_true rfl, Bool.true_and, List.all_eq_true]
  intro k hk
  have hk2 : k < ts.length := by simpa using hk
  have hm : k < ms.length := by rw [h.len]; exact hk2
  have q := h.at (j := k) (t := ts[k]) (by simp [hk2])
  have e1 : ts.getD k 0 = ts[k] := by simp [hk2]
  have e2 : (ms.map nD).getD k .non = nD ms[k] := by simp [hm]
  have e3 : ms.getD k 0 = ms[k] := by simp [hm]
  rw [e1, e2]
  rw [e3] at q
  show (decide (0 ≤ ((ms[k] : Nat) : Int)) && decide (((ms[k] : Nat) : Int) < ((ts[k] : Nat) : Int))) = true
  rw [decide_eq_true (by omega), decide_eq_true (by omega)]
  rfl
end Py.U

namespace Py.U
open PySem
/-! ### values made from the right marks -/
theorem AL_t {k : Nat} {xs : List D} (h : xs.length ≤ 1000) (ha : ∀ x ∈ xs, AL k x) : AL (k + 1) (.tup xs) := ⟨h, ha⟩
theorem AL_l {k : Nat} {xs : List D} (h : xs.length ≤ 1000) (ha : ∀ x ∈ xs, AL k x) : AL (k + 1) (.lst xs) := ⟨h, ha⟩
theorem AL_1 {k : Nat} {x : D} (h : AL k x) : ∀ y ∈ [x], AL k y := fun y hy => by
  rw [List.mem_singleton.mp hy]
  exact h
theorem AL_0 {k : Nat} : ∀ y ∈ ([] : List D), AL k y := fun y hy => by cases hy
theorem AL_2 {k : Nat} {x z : D} (h : AL k x) (h2 : AL k z) : ∀ y ∈ [x, z], AL k y := fun y hy => by
  rcases List.mem_cons.mp hy with e | e
  · rw [e]
    exact h
  · exact AL_1 h2 y e
theorem AL_a {k : Nat} {xs ys : List D} (h : ∀ x ∈ xs, AL k x) (h2 : ∀ x ∈ ys, AL k x) : ∀ x ∈ xs ++ ys, AL k x := fun x hx => (List.mem_append.mp hx).elim (h x) (h2 x)
theorem AL_c {k : Nat} {xs : List D} {lo hi : Option Int} (h : ∀ x ∈ xs, AL k x) : ∀ x ∈ cut xs lo hi, AL k x := fun x hx => h x (cut_mem hx)
theorem AL_row (k : Nat) : AL (k + 1) row1 := (rfl : row1 = row1)
theorem AL_int (k : Nat) (z : Int) : AL (k + 1) (.int z) := trivial
theorem AL_nD (k : Nat) (ms : List Nat) : ∀ x ∈ ms.map nD, AL (k + 1) x := fun x hx => by
  obtain ⟨m, _, rfl⟩ := List.mem_map.mp hx
  trivial
theorem oadd_tt {a b : List D} (h : a.length + b.length ≤ SZ) : oadd (.tup a) (.tup b) = .ok (.tup (a ++ b)) := if_pos h
theorem made_row1 : m_Row [.int 1, .lst [], .int 0] = .ok row1 := row_made2 (n := 1) (xs := []) (out := 0) (by decide) (by decide) (fun k h => by simp at h) (by simp) (by simp)
theorem other_zero {rs : List D} (hrs : rs.length ≤ 400) (ha : ∀ k, ∀ x ∈ rs, AL (k + 1) x) {TS L : D} {y : Int} (h0 : oidx L (.int 0) = .ok (.int 0)) (h1 : oidx L (.int 1) = .ok (.int y)) (hy : 0 ≤ y ∧ y < 17) : ∃ v, m_law_other [.tup rs, TS, L] = .ok v ∧ AL 12 v := by
  obtain ⟨v, hv, q⟩ := oidx_mem (xs := [.lst rs, .tup (rs ++ [.int 0]), .tup (cut rs none (some (-1))), .non, .int 0, .str "0", .bl true, .tup [.tup rs], .tup [], .lst [], row1, .tup [.lst [.int 0]], .lst [.lst []]] ++ [.tup [.int 0, .non], .tup [.int 0, .tup [.lst []]], .tup (rs ++ [.lst []]), .tup [row1]]) hy.1 (Int.lt_of_lt_of_le hy.2 (by simp))
  refine ⟨v, ?_, ?_⟩
  · have a1 : oadd (.tup rs) (.tup [.int 0]) = .ok (.tup (rs ++ [.int 0])) := oadd_tt (le_sz (by simp; omega))
    have a2 : oadd (.tup rs) (.tup [.lst []]) = .ok (.tup (rs ++ [.lst []])) := oadd_tt (le_sz (by simp; omega))
    have a3 : oslc (.tup rs) none (some (-1)) = .ok (.tup (cut rs none (some (-1)))) := rfl
    have a4 := made_row1
    have a5 : ∀ a b : List D, a.length + b.length = 17 → oadd (.lst a) (.lst b) = .ok (.lst (a ++ b)) := fun a b h => oadd_ll (by rw [h]; decide)
    have a6 := a5 [.lst rs, .tup (rs ++ [.int 0]), .tup (cut rs none (some (-1))), .non, .int 0, .str "0", .bl true, .tup [.tup rs], .tup [], .lst [], row1, .tup [.lst [.int 0]], .lst [.lst []]] [.tup [.int 0, .non], .tup [.int 0, .tup [.lst []]], .tup (rs ++ [.lst []]), .tup [row1]] rfl
    clear a5 ha hrs hv
    generalize D.tup (rs ++ [.int 0]) = t1 at *
    generalize D.tup (rs ++ [.lst []]) = t2 at *
    generalize D.tup (cut rs none (some (-1))) = t3 at *
    generalize row1 = R at *
    have a7 : blist (.tup rs) = .ok (.lst rs) := rfl
    generalize D.lst rs = t5 at *
    generalize hT : D.tup rs = t4 at *
    generalize hbig : D.lst ([t5, t1, t3, .non, .int 0, .str "0", .bl true, .tup [t4], .tup [], .lst [], R, .tup [.lst [.int 0]], .lst [.lst []]] ++ [.tup [.int 0, .non], .tup [.int 0, .tup [.lst []]], t2, .tup [R]]) = BIG at *
    unfold m_law_other
    rw [fn3]
    unfold b__law_other
    simp [var, h0, h1, a1, a2, a3, a4, a6, a7, q, slc_eq, bnd_none, bnd_some]
  · simp only [List.mem_append, List.mem_cons, List.not_mem_nil, or_false] at hv
    have i0 : ∀ k, AL (k + 1) (.int 0) := fun k => trivial
    have e0 : ∀ k, AL (k + 1) (.lst []) := fun k => AL_l (by simp) AL_0
    rcases hv with (rfl | rfl | rfl | rfl | rfl | rfl | rfl | rfl | rfl | rfl | rfl | rfl | rfl) | (rfl | rfl | rfl | rfl)
    · exact AL_l (by omega) (ha 10)
    · exact AL_t (by simp; omega) (AL_a (ha 10) (AL_1 (i0 10)))
    · exact AL_t (Nat.le_trans cut_len (by omega)) (AL_c (ha 10))
    · trivial
    · trivial
    · trivial
    · trivial
    · exact AL_t (by simp) (AL_1 (AL_t (by omega) (ha 9)))
    · exact AL_t (by simp) AL_0
    · exact AL_l (by simp) AL_0
    · exact AL_row 11
    · exact AL_t (by simp) (AL_1 (AL_l (by simp) (AL_1 (i0 9))))
    · exact AL_l (by simp) (AL_1 (e0 10))
    · exact AL_t (by simp) (AL_2 (i0 10) trivial)
    · exact AL_t (by simp) (AL_2 (i0 10) (AL_t (by simp) (AL_1 (e0 9))))
    · exact AL_t (by simp; omega) (AL_a (ha 10) (AL_1 (e0 10)))
    · exact AL_t (by simp) (AL_1 (AL_row 10))
theorem other_any {rs : List D} {ts : List Nat} (hrs : rs.length ≤ 400) (hl : ts.length = rs.length) (ha : ∀ k, ∀ x ∈ rs, AL (k + 1) x) {x0 x1 x2 x3 x4 : Int} (b1 : 0 ≤ x1 ∧ x1 < 17) (b2 : 0 ≤ x2) (b4 : 0 ≤ x4 ∧ x4 < 18) :
    ∃ v, m_law_other [.tup rs, .lst (ts.map nD), .lst [.int x0, .int x1, .int x2, .int x3, .int x4]] = .ok v ∧ AL 12 v := by
  by_cases c0 : x0 = 0
  · subst c0
    exact other_zero hrs ha ix50 ix51 b1
  have hlen : blen (.tup rs) = .ok (.int (rs.length : Int)) := rfl
  by_cases c1 : x0 = 1 ∨ rs.length = 0
  · refine ⟨.tup rs, ?_, AL_t (by omega) (ha 10)⟩
    have c2 : (rs.length : Int) = 0 ↔ rs.length = 0 := by omega
    generalize D.tup rs = T at *
    generalize D.lst (ts.map nD) = TS at *
    unfold m_law_other
    rw [fn3]
    unfold b__law_other
    rcases c1 with c1 | c1
    · simp [var, ix50, c0, c1]
    · have c3 := c2.mpr c1
      generalize (rs.length : Int) = LN at *
      by_cases c4 : x0 = 1
      · simp [var, ix50, c0, c4]
      · simp [var, ix50, c0, c4, hlen, c3]
  · have n1 : ¬ x0 = 1 := fun z => c1 (.inl z)
    have n2 : ¬ rs.length = 0 := fun z => c1 (.inr z)
    obtain ⟨a, ha1, ha2⟩ := mod_nat x2 (n := rs.length) (by omega)
    have m1 : omod (.int x2) (.int (rs.length : Int)) = .ok (.int (a : Int)) := by rw [omod_ii (by omega), ha2]
    have i1 : oidx (.lst (ts.map nD)) (.int (a : Int)) = .ok (.int ((ts.getD a 0 : Nat) : Int)) := oidx_l (by
      have : a < ts.length := by omega
      simp [this, nD])
    have i2 : oidx (.tup rs) (.int (a : Int)) = .ok rs[a] := oidx_t (by simp [ha1])
    have gx : AL 10 rs[a] := ha 9 _ (List.getElem_mem ha1)
    generalize ((ts.getD a 0 : Nat) : Int) = t at *
    generalize rs[a] = ra at *
    obtain ⟨bad, hv, q⟩ := oidx_mem (xs := [.int (-1), .int 1, .int 2, .int t, .int (t + x3), .bl true, .bl false, .non, .str "0", .tup [.int 0], .int (t - 1), .int 3, .lst [.int 0], row1, .tup [.lst []], .lst [.lst []], .lst [ra], .tup [.non]]) b4.1 b4.2
    have hbad : AL 11 bad := by
      simp only [List.mem_cons, List.not_mem_nil, or_false] at hv
      have i0 : ∀ k, AL (k + 1) (.int 0) := fun k => trivial
      have e0 : ∀ k, AL (k + 1) (.lst []) := fun k => AL_l (by simp) AL_0
      rcases hv with rfl | rfl | rfl | rfl | rfl | rfl | rfl | rfl | rfl | rfl | rfl | rfl | rfl | rfl | rfl | rfl | rfl | rfl
      · trivial
      · trivial
      · trivial
      · trivial
      · trivial
      · trivial
      · trivial
      · trivial
      · trivial
      · exact AL_t (by simp) (AL_1 (i0 9))
      · trivial
      · trivial
      · exact AL_l (by simp) (AL_1 (i0 9))
      · exact AL_row 10
      · exact AL_t (by simp) (AL_1 (e0 9))
      · exact AL_l (by simp) (AL_1 (e0 9))
      · exact AL_l (by simp) (AL_1 gx)
      · exact AL_t (by simp) (AL_1 (k := 10) (x := .non) trivial)
    have l1 := cut_len (xs := rs) (lo := none) (hi := some (a : Int))
    have l2 := cut_len (xs := rs) (lo := some ((a : Int) + 1)) (hi := none)
    refine ⟨.tup ((cut rs none (some (a : Int)) ++ [bad]) ++ cut rs (some ((a : Int) + 1)) none), ?_, AL_t (by simp only [List.length_append, List.length_singleton]; omega) (AL_a (AL_a (AL_c (ha 10)) (AL_1 hbad)) (AL_c (ha 10)))⟩
    have s1 : oslc (.tup rs) none (some (a : Int)) = .ok (.tup (cut rs none (some (a : Int)))) := rfl
    have s2 : oslc (.tup rs) (some ((a : Int) + 1)) none = .ok (.tup (cut rs (some ((a : Int) + 1)) none)) := rfl
    have a1 : oadd (.tup (cut rs none (some (a : Int)))) (.tup [bad]) = .ok (.tup (cut rs none (some (a : Int)) ++ [bad])) := oadd_tt (le_sz (by simp only [List.length_singleton]; omega))
    have a2 : oadd (.tup (cut rs none (some (a : Int)) ++ [bad])) (.tup (cut rs (some ((a : Int) + 1)) none)) = .ok (.tup ((cut rs none (some (a : Int)) ++ [bad]) ++ cut rs (some ((a : Int) + 1)) none)) := oadd_tt (le_sz (by simp only [List.length_append, List.length_singleton]; omega))
    have a4 := made_row1
    have c3 : ¬ (rs.length : Int) = 0 := by omega
    clear hv hbad ha gx l1 l2 hl hrs ha1 ha2 c1 n2
    generalize D.tup ((cut rs none (some (a : Int)) ++ [bad]) ++ cut rs (some ((a : Int) + 1)) none) = t1 at *
    generalize D.tup (cut rs none (some (a : Int)) ++ [bad]) = t2 at *
    generalize D.tup (cut rs none (some (a : Int))) = t3 at *
    generalize D.tup (cut rs (some ((a : Int) + 1)) none) = t4 at *
    generalize D.tup rs = T at *
    generalize D.lst (ts.map nD) = TS at *
    generalize (rs.length : Int) = LN at *
    generalize (a : Int) = Ai at *
    generalize row1 = R at *
    unfold m_law_other
    rw [fn3]
    unfold b__law_other
    simp [var, ix50, ix51, ix52, ix53, ix54, c0, n1, c3, hlen, m1, i1, i2, q, s1, s2, a1, a2, a4, slc_eq, bnd_none, bnd_some]
/-! ### wrong letters -/
theorem opow30 : opow (.int 10) (.int 30) = .ok (.int 1000000000000000000000000000000) := rfl
def badL (T T5 : Int) : List D := [.int (-1), .int T, .int T5, .bl true, .bl false, .non, .str "0", .tup [.int 0], .lst [.int 0], .int (-1000000000000000000000000000000), .tup [], .str ""]
theorem bad_in {t : Nat} {T5 : Int} (h5 : (t : Int) ≤ T5) : ∀ v ∈ badL (t : Int) T5, belowD t v = false ∧ AL 11 v ∧ AL 12 v := fun v hv => by
  have i0 : ∀ k, AL (k + 1) (.int 0) := fun k => trivial
  unfold badL at hv
  simp only [List.mem_cons, List.not_mem_nil, or_false] at hv
  rcases hv with rfl | rfl | rfl | rfl | rfl | rfl | rfl | rfl | rfl | rfl | rfl | rfl
  · exact ⟨rfl, trivial, trivial⟩
  · refine ⟨?_, trivial, trivial⟩
    have e : decide ((t : Int) < (t : Int)) = false := decide_eq_false (Int.lt_irrefl _)
    show (decide (0 ≤ (t : Int)) && decide ((t : Int) < (t : Int))) = false
    rw [e, Bool.and_false]
  · refine ⟨?_, trivial, trivial⟩
    have e : decide (T5 < (t : Int)) = false := decide_eq_false (by omega)
    show (decide (0 ≤ T5) && decide (T5 < (t : Int))) = false
    rw [e, Bool.and_false]
  · exact ⟨rfl, trivial, trivial⟩
  · exact ⟨rfl, trivial, trivial⟩
  · exact ⟨rfl, trivial, trivial⟩
  · exact ⟨rfl, trivial, trivial⟩
  · exact ⟨rfl, AL_t (by simp) (AL_1 (i0 9)), AL_t (by simp) (AL_1 (i0 10))⟩
  · exact ⟨rfl, AL_l (by simp) (AL_1 (i0 9)), AL_l (by simp) (AL_1 (i0 10))⟩
  · exact ⟨rfl, trivial, trivial⟩
  · exact ⟨rfl, AL_t (by simp) AL_0, AL_t (by simp) AL_0⟩
  · exact ⟨rfl, trivial, trivial⟩
/-! ### wrong readings -/
def badR (ls : List D) (T : Int) : List D := [.lst ls, .non, .int 0, .str "01", .tup [.tup ls], .bl true, .lst [], .str "", .int (-1), .lst [.tup [.int 0]], .int T, .tup [.tup []]]
theorem badR_in {n : Nat} {ls : List D} {T : Int} (hl : ls.length ≤ 1000) (ha : ∀ k, ∀ x ∈ ls, AL (k + 1) x) : ∀ v ∈ badR ls T, isRd n v = false ∧ AL 12 v := fun v hv => by
  have i0 : ∀ k, AL (k + 1) (.int 0) := fun k => trivial
  unfold badR at hv
  simp only [List.mem_cons, List.not_mem_nil, or_false] at hv
  rcases hv with rfl | rfl | rfl | rfl | rfl | rfl | rfl | rfl | rfl | rfl | rfl | rfl
  · exact ⟨rfl, AL_l hl (ha 10)⟩
  · exact ⟨rfl, trivial⟩
  · exact ⟨rfl, trivial⟩
  · exact ⟨rfl, trivial⟩
  · exact ⟨rfl, AL_t (by simp) (AL_1 (AL_t hl (ha 9)))⟩
  · exact ⟨rfl, trivial⟩
  · exact ⟨rfl, AL_l (by simp) AL_0⟩
  · exact ⟨rfl, trivial⟩
  · exact ⟨rfl, trivial⟩
  · exact ⟨rfl, AL_l (by simp) (AL_1 (AL_t (by simp) (AL_1 (i0 9))))⟩
  · exact ⟨rfl, trivial⟩
  · exact ⟨rfl, AL_t (by simp) (AL_1 (AL_t (by simp) AL_0))⟩
theorem mixed_bad {n : Nat} {xs ys : List D} {b : D} (h : belowD (2 ^ n) b = false) : isRd n (.tup ((xs ++ [b]) ++ ys)) = false := by
  show ((xs ++ [b]) ++ ys).all (belowD (2 ^ n)) = false
  simp [h]
end Py.U

namespace Py.U
open PySem
theorem ite_in {c : TM} {r b : SM} {e e' : Env} (h : c e = .ok true) (h2 : b e = .ok (.next e')) : seq (Py.ite c b skip) r e = r e' := by
  refine seq_next ?_
  unfold Py.ite
  rw [h, bind_ok]
  exact h2
def mB : SM := (seq (asg (gnm 12) (call m_is_marks (argC (var 5) (argC (var 11) argN))))
  (seq (Py.ite (orT (notT (tst (un (oisi CS [.bl]) (var 12)))) (tst (bin Py.one (var 12) (call m_law_judged (argC (var 6) (argC (var 11) argN)))))) (ret (cst (.bl false))) skip)
  (Py.ite (tst (bin Py.one (call (kwc 2 [1, 0] m_is_marks) (argC (var 11) (argC (var 5) argN))) (var 12))) (ret (cst (.bl false))) skip)))
theorem marks_loop {R TT : D} {vs : List D} {j : D → Bool} (h : ∀ x ∈ vs, m_is_marks [R, x] = .ok (.bl (j x)) ∧ m_law_judged [TT, x] = .ok (.bl (j x))) (a0 a1 a2 a3 a4 a7 a8 a9 a10 o11 o12 a13 a14 a15 a16 a17 a18 a19 : Option D) :
    ∃ o o', forL (forB (gnm 11) mB) vs [a0, a1, a2, a3, a4, some R, some TT, a7, a8, a9, a10, o11, o12, a13, a14, a15, a16, a17, a18, a19] = .ok (.next [a0, a1, a2, a3, a4, some R, some TT, a7, a8, a9, a10, o, o', a13, a14, a15, a16, a17, a18, a19]) := by
  obtain ⟨e', h1, o, o', h2⟩ := forL_inv (b := forB (gnm 11) mB) (xs := vs) (e := [a0, a1, a2, a3, a4, some R, some TT, a7, a8, a9, a10, o11, o12, a13, a14, a15, a16, a17, a18, a19])
    (fun _ e => ∃ o o', e = [a0, a1, a2, a3, a4, some R, some TT, a7, a8, a9, a10, o, o', a13, a14, a15, a16, a17, a18, a19]) 0 ⟨o11, o12, rfl⟩ (by
      rintro k e hk ⟨o, o', rfl⟩
      obtain ⟨q1, q2⟩ := h _ (List.getElem_mem hk)
      generalize vs[k] = x at *
      have q3 : kwc 2 [1, 0] m_is_marks [x, R] = .ok (.bl (j x)) := q1
      have q4 : ∀ b, oisi CS [.bl] (.bl b) = .ok (.bl true) := fun _ => rfl
      have q5 : ∀ b, Py.one (.bl b) (.bl b) = .ok (.bl false) := fun b => by cases b <;> rfl
      generalize j x = J at *
      refine ⟨[a0, a1, a2, a3, a4, some R, some TT, a7, a8, a9, a10, some x, some (.bl J), a13, a14, a15, a16, a17, a18, a19], ?_, _, _, rfl⟩
      unfold mB
      simp [var, q1, q2, q3, q4, q5])
  subst h2
  exact ⟨o, o', h1⟩
end Py.U

namespace Py.U
open PySem
theorem holds_ok (ns : List Int) : m_law_holds [.lst (ns.map .int)] = .ok (.bl true) := by
  obtain ⟨c0, hc0⟩ := cell_ok ns 0
  obtain ⟨c1, hc1⟩ := cell_ok ns 1
  obtain ⟨c2, hc2⟩ := cell_ok ns 2
  obtain ⟨c3, hc3⟩ := cell_ok ns 3
  obtain ⟨c14, hc14⟩ := cell_ok ns 14
  obtain ⟨ds, hdr, hd⟩ := draws_ok c0 [3, 11, 8, 9, 12, 1000, 64, 5] (by simp) (by simp)
  obtain ⟨d0, d1, d2, d3, d4, d5, d6, d7, rfl, ⟨a0, a1⟩, ⟨b0, b1⟩, ⟨g0, g1⟩, ⟨h0, h1⟩, k0, k1⟩ := drawn8 hdr
  obtain ⟨n, hn⟩ : ∃ n : Nat, 1 + d0 = (n : Int) := ⟨(1 + d0).toNat, by omega⟩
  obtain ⟨m, hm⟩ : ∃ m : Nat, d1 = (m : Int) := ⟨d1.toNat, by omega⟩
  obtain ⟨kl, hkl⟩ : ∃ k : Nat, 1 + d3 = (k : Int) := ⟨(1 + d3).toNat, by omega⟩
  have n1 : 1 ≤ n := by omega
  have n3 : n ≤ 3 := by omega
  have m2 : m ≤ 10 := by omega
  have kl1 : 1 ≤ kl := by omega
  have kl9 : kl ≤ 9 := by omega
  have hP : 2 ^ n ≤ 8 := by
    have : n = 1 ∨ n = 2 ∨ n = 3 := by omega
    rcases this with rfl | rfl | rfl <;> decide
  have hP0 : 0 < 2 ^ n := Nat.two_pow_pos n
  obtain ⟨xs, rfl, hr, o4, hdl⟩ := deeds_loop ns (n := n) (m := m) (by omega) (by omega) (L := .lst [.int d0, .int d1, .int d2, .int d3, .int d4, .int d5, .int d6, .int d7])
  have htl : (tops xs).length ≤ xs.length := tops_len xs
  -- the row
  have hrow := row_made2 (out := n + xs.length - 1) n1 n3 hr (by omega) (by omega)
  -- marks
  obtain ⟨ms, hms, hfit⟩ := marks_drawn c1 hr (by omega)
  have hml : ms.length = (tops xs).length := hfit.len
  have hrs : (ms.map nD).length ≤ 400 := by rw [List.length_map]; omega
  have hra : ∀ k, ∀ x ∈ ms.map nD, AL (k + 1) x := fun k => AL_nD k ms
  obtain ⟨e5, he5, hd5⟩ := draws_ok c2 [4, 17, 10, 1000, 18] (by simp) (by simp)
  obtain ⟨y0, y1, y2, y3, y4, rfl, p0, p1, p2, p3, p4⟩ := drawn5 he5
  obtain ⟨v1, hv1, av1⟩ := other_any (rs := ms.map nD) (ts := tops xs) (x0 := y0) (x1 := y1) (x2 := y2) (x3 := y3) (x4 := y4) hrs (by rw [List.length_map, hml]) hra p1 p2.1 p4
  obtain ⟨e1, he1, hd1⟩ := draws_ok c14 [17] (by simp) (by simp)
  obtain ⟨z1, rfl, q1⟩ := drawn1 he1
  obtain ⟨v2, hv2, av2⟩ := other_zero (rs := ms.map nD) (TS := .lst ((tops xs).map nD)) (L := .lst [.int 0, .int z1]) hrs hra ix20 ix21 q1
  have ar : AL 12 (.tup (ms.map nD)) := AL_t (by omega) (hra 10)
  have al : AL 12 (.lst (ms.map nD)) := AL_l (by omega) (hra 10)
  have ap : AL 12 (.tup (ms.map nD ++ [.int 0])) := AL_t (by simp only [List.length_append, List.length_singleton]; omega) (AL_a (hra 10) (AL_1 trivial))
  have az : AL 12 (Z0 (tops xs).length) := Z0_AL _ (by omega) 10
  have hloop : ∀ x ∈ [D.tup (ms.map nD), v1, v2, Z0 (tops xs).length, .lst (ms.map nD), .tup (ms.map nD ++ [.int 0])], m_is_marks [rowD n xs (n + xs.length - 1), x] = .ok (.bl (judge (tops xs) x)) ∧ m_law_judged [.lst ((tops xs).map nD), x] = .ok (.bl (judge (tops xs) x)) := fun x hx => by
    have hax : AL 12 x := by
      simp only [List.mem_cons, List.not_mem_nil, or_false] at hx
      rcases hx with rfl | rfl | rfl | rfl | rfl | rfl
      · exact ar
      · exact av1
      · exact av2
      · exact az
      · exact al
      · exact ap
    exact ⟨is_marks_any hax.okd (by omega), judged_any hax.okd (by omega)⟩
  have hj1 := judged_any (ts := tops xs) av1.okd (by omega)
  -- letters
  obtain ⟨l, l1, hl⟩ := mod_nD d2 (n := 2 ^ n) hP0
  obtain ⟨bad, hbm, hbq⟩ := oidx_mem (xs := badL ((2 ^ n : Nat) : Int) (((2 ^ n : Nat) : Int) + d5)) h0 (Int.lt_of_lt_of_le h1 (by simp [badL]))
  obtain ⟨bb, ab11, ab12⟩ := bad_in (t := 2 ^ n) (by omega) bad hbm
  have hsr := fun (hj : judge (tops xs) v1 = false) (lt : D) => refused_marks av1 (step_marks (n := n) (out := n + xs.length - 1) (l := lt) av1.okd (by omega) hj)
  have hsn := refused_number ab12 (step_number (n := n) (out := n + xs.length - 1) ar.okd (by omega) (by omega) (fit_judge hfit) ab12.gd bb)
  -- reading
  obtain ⟨ls, hls, hll, hlt⟩ := low_draws c3 (w := 2 ^ n) (k := kl) ⟨hP0, by omega⟩ (by omega)
  obtain ⟨at_, hat, hae⟩ := mod_nat d6 (n := ls.length) (by omega)
  have hlr : ∀ k, ∀ x ∈ ls.map nD, AL (k + 1) x := fun k => AL_nD k ls
  have hlz : (ls.map nD).length ≤ 1000 := by rw [List.length_map]; omega
  have l3 := cut_len (xs := ls.map nD) (lo := none) (hi := some (at_ : Int))
  have l4 := cut_len (xs := ls.map nD) (lo := some ((at_ : Int) + 1)) (hi := none)
  rw [List.length_map] at l3 l4
  have s1 : oslc (.lst (ls.map nD)) none (some (at_ : Int)) = .ok (.lst (cut (ls.map nD) none (some (at_ : Int)))) := rfl
  have s2 : oslc (.lst (ls.map nD)) (some ((at_ : Int) + 1)) none = .ok (.lst (cut (ls.map nD) (some ((at_ : Int) + 1)) none)) := rfl
  have j1 : oadd (.tup (cut (ls.map nD) none (some (at_ : Int)))) (.tup [bad]) = .ok (.tup (cut (ls.map nD) none (some (at_ : Int)) ++ [bad])) := oadd_tt (le_sz (by simp only [List.length_singleton]; omega))
  have j2 : oadd (.tup (cut (ls.map nD) none (some (at_ : Int)) ++ [bad])) (.tup (cut (ls.map nD) (some ((at_ : Int) + 1)) none)) = .ok (.tup ((cut (ls.map nD) none (some (at_ : Int)) ++ [bad]) ++ cut (ls.map nD) (some ((at_ : Int) + 1)) none)) := oadd_tt (le_sz (by simp only [List.length_append, List.length_singleton]; omega))
  obtain ⟨br, hbrm, hbrq⟩ := oidx_mem (xs := badR (ls.map nD) ((2 ^ n : Nat) : Int)) h0 (Int.lt_of_lt_of_le h1 (by simp [badR]))
  have hbr := badR_in (n := n) hlz hlr br hbrm
  have hrd0 : isRd n (.tup ((cut (ls.map nD) none (some (at_ : Int)) ++ [bad]) ++ cut (ls.map nD) (some ((at_ : Int) + 1)) none)) = false := mixed_bad bb
  have ard0 : AL 12 (.tup ((cut (ls.map nD) none (some (at_ : Int)) ++ [bad]) ++ cut (ls.map nD) (some ((at_ : Int) + 1)) none)) := AL_t (by simp only [List.length_append, List.length_singleton]; omega) (AL_a (AL_a (AL_c (hlr 10)) (AL_1 ab11)) (AL_c (hlr 10)))
  have href0 := refused_reading ard0 (after_exc (n := n) (out := n + xs.length - 1) (xs := xs) ard0.okd (by omega) hrd0)
  have href1 := refused_reading hbr.2 (after_exc (n := n) (out := n + xs.length - 1) (xs := xs) hbr.2.okd (by omega) hbr.1)
  -- right calls
  have hstep := mark_step_ok (n := n) (out := n + xs.length - 1) l1 hfit hr (by omega)
  obtain ⟨mz, hfz, haf⟩ := after_any (n := n) (out := n + xs.length - 1) hr (by omega) hlt (by omega)
  have hjz := judged_any (ts := tops xs) (v := .tup (mz.map nD)) (AL.okd (k := 10) (AL_t (by rw [List.length_map, hfz.len]; omega) (AL_nD 10 mz))) (by omega)
  rw [fit_judge hfz] at hjz
  have hfirst := first_zero (n := n) (out := n + xs.length - 1) (xs := xs) (by omega)
  have hrep := rep0 (m := (tops xs).length) (by omega)
  have halk := alike_refl 12 _ az
  have htops := tops_ok (xs := xs) (by omega)
  have hshl := shl_nD (n := n) (by omega)
  have hrep1 := rep_one ((2 ^ n : Nat) : Int) kl (by omega)
  have eN : oadd (.int 1) (.int d0) = .ok (nD n) := by
    rw [oadd_ii, hn]
    rfl
  have eK : oadd (.int 1) (.int d3) = .ok (.int (kl : Int)) := by rw [oadd_ii, hkl]
  have eU : oadd (nD n) (.int ((xs.map Deed.d).length : Int)) = .ok (.int ((n + xs.length : Nat) : Int)) := by
    rw [List.length_map]
    exact nadd n xs.length
  have eU2 : osub (.int ((n + xs.length : Nat) : Int)) (.int 1) = .ok (nD (n + xs.length - 1)) := by
    rw [osub_ii]
    unfold nD
    congr 2
    omega
  have hM1 : ∀ t : List (Option D), irng1 (bin oidx (var 1) (cst (.int 1))) (some (.lst (ns.map .int)) :: some (.lst [.int d0, .int d1, .int d2, .int d3, .int d4, .int d5, .int d6, .int d7]) :: t) = .ok ((List.range xs.length).map fun i => .int ((i : Nat) : Int)) := fun t => irng1_nat (by simp [var, ix81, hm]) (rng_lt (by omega))
  have tl : blen (.lst ((tops xs).map nD)) = .ok (.int ((tops xs).length : Int)) := by rw [blen_l, List.length_map]
  have lll : blen (.lst (ls.map nD)) = .ok (.int (ls.length : Int)) := by rw [blen_l, List.length_map]
  have hmod : omod (.int d6) (.int (ls.length : Int)) = .ok (.int (at_ : Int)) := by rw [omod_ii (by omega), hae]
  have japp : oadd (.tup (ms.map nD)) (.tup [.int 0]) = .ok (.tup (ms.map nD ++ [.int 0])) := oadd_tt (le_sz (by simp only [List.length_singleton]; omega))
  have hP' : nD (2 ^ n) = .int ((2 ^ n : Nat) : Int) := rfl
  rw [hP'] at hl hshl
  have hfirst' : m_first_marks [rowD n xs (n + xs.length - 1)] = .ok (Z0 (tops xs).length) := hfirst
  have hkw1 : kwc 1 [0] m_first_marks [rowD n xs (n + xs.length - 1)] = .ok (Z0 (tops xs).length) := hfirst
  have hkw2 : kwc 2 [1, 0] m_marks_after [.tup (ls.map nD), rowD n xs (n + xs.length - 1)] = .ok (.tup (mz.map nD)) := haf
  have hc0' : m_law_cell [.lst (ns.map .int), .int 0] = .ok (.int c0) := hc0
  have hc1' : m_law_cell [.lst (ns.map .int), .int 1] = .ok (.int c1) := hc1
  have hc2' : m_law_cell [.lst (ns.map .int), .int 2] = .ok (.int c2) := hc2
  have hc3' : m_law_cell [.lst (ns.map .int), .int 3] = .ok (.int c3) := hc3
  have hc14' : m_law_cell [.lst (ns.map .int), .int 14] = .ok (.int c14) := hc14
  have hadd2 : oadd (.lst [.int 0]) (.lst [.int z1]) = .ok (.lst [.int 0, .int z1]) := oadd_ll (le_sz (by simp))
  change m_law_draws [_, .lst [.int 3, .int 11, .int 8, .int 9, .int 12, .int 1000, .int 64, .int 5]] = .ok (.lst [.int d0, .int d1, .int d2, .int d3, .int d4, .int d5, .int d6, .int d7]) at hd
  change m_law_draws [_, .lst [.int 4, .int 17, .int 10, .int 1000, .int 18]] = .ok (.lst [.int y0, .int y1, .int y2, .int y3, .int y4]) at hd5
  change m_law_draws [_, .lst [.int 17]] = .ok (.lst [.int z1]) at hd1
  unfold badL at hbq
  unfold badR at hbrq
  clear hbm hbrm hbr ard0 hrd0 ab11 ab12 bb ar al ap az av1 av2 hra hrs hlr hlz l3 l4 hfz haf hfirst hc0 hc1 hc2 hc3 hc14 he5 he1 hdr p0 p1 p2 p3 p4 q1 hat hae hll hlt hm hn hkl hfit hml htl a0 a1 b0 b1 g0 g1 h0 h1 k0 k1 n1 n3 m2 kl1 kl9 hP hP0 hP' l1 hr
  generalize judge (tops xs) = J at *
  generalize hT2 : runD ms (lb n l) xs = T2 at *
  generalize D.tup (T2.1.map nD) = A1 at *
  generalize D.tup (T2.2.map nD) = A2 at *
  generalize rowD n xs (n + xs.length - 1) = R at *
  generalize D.tup (mz.map nD) = MZ at *
  generalize D.tup ((cut (ls.map nD) none (some (at_ : Int)) ++ [bad]) ++ cut (ls.map nD) (some ((at_ : Int) + 1)) none) = RD0 at *
  generalize D.tup (cut (ls.map nD) none (some (at_ : Int)) ++ [bad]) = RD1 at *
  generalize cut (ls.map nD) none (some (at_ : Int)) = CT1 at *
  generalize cut (ls.map nD) (some ((at_ : Int) + 1)) none = CT2 at *
  generalize D.tup (ms.map nD ++ [.int 0]) = RP at *
  generalize ms.map nD = MS at *
  generalize ls.map nD = LS at *
  generalize D.lst ((tops xs).map nD) = TT at *
  generalize Z0 (tops xs).length = ZZ at *
  generalize ((tops xs).length : Int) = TLn at *
  generalize ((2 ^ n : Nat) : Int) = Pz at *
  generalize nD (n + xs.length - 1) = U2 at *
  generalize ((n + xs.length : Nat) : Int) = U1 at *
  generalize nD n = N at *
  generalize nD l = Ll at *
  generalize xs.map Deed.d = XS at *
  generalize ns.map D.int = Sc at *
  generalize (ls.length : Int) = Lln at *
  generalize (at_ : Int) = At at *
  generalize (kl : Int) = Kl at *
  generalize (List.replicate kl Pz).map D.int = RL at *
  generalize hDD : D.lst [.int d0, .int d1, .int d2, .int d3, .int d4, .int d5, .int d6, .int d7] = DD at *
  have w0 : oidx DD (.int 0) = .ok (.int d0) := by rw [← hDD]; rfl
  have w2 : oidx DD (.int 2) = .ok (.int d2) := by rw [← hDD]; rfl
  have w3 : oidx DD (.int 3) = .ok (.int d3) := by rw [← hDD]; rfl
  have w4 : oidx DD (.int 4) = .ok (.int d4) := by rw [← hDD]; rfl
  have w5 : oidx DD (.int 5) = .ok (.int d5) := by rw [← hDD]; rfl
  have w6 : oidx DD (.int 6) = .ok (.int d6) := by rw [← hDD]; rfl
  have w7 : oidx DD (.int 7) = .ok (.int d7) := by rw [← hDD]; rfl
  unfold m_law_holds
  rw [fn1]
  unfold b__law_holds
  refine (congrArg done ((asg_pass (d := DD) ?_).trans ?_)).trans (done_ret (.bl true))
  · simp [var, hc0', hd]
  refine (asg_pass (d := N) ?_).trans ?_
  · simp [var, w0, eN]
  refine (asg_pass (d := .lst []) ?_).trans ?_
  · simp [var]
  refine (for_pass (hM1 _) hdl).trans ?_
  refine (asg_pass (d := R) ?_).trans ?_
  · simp [var, eU, eU2, hrow]
  refine (asg_pass (d := TT) ?_).trans ?_
  · simp [var, htops]
  refine (asg_pass (d := ZZ) ?_).trans ?_
  · simp [var, tl, hrep]
  refine (chk_pass ?_).trans ?_
  · simp [var, hfirst', hkw1, halk]
  refine (asg_pass (d := .tup MS) ?_).trans ?_
  · simp [var, hc1', hms]
  refine (asg_pass (d := v1) ?_).trans ?_
  · simp [var, hc2', hd5, hv1]
  refine (asg_pass (d := v2) ?_).trans ?_
  · simp [var, hc14', hd1, hadd2, hv2]
  obtain ⟨o, o', hml⟩ := marks_loop hloop (some (.lst Sc)) (some DD) (some N) (some (.lst XS)) o4 (some ZZ) (some (.tup MS)) (some v1) (some v2) none none none none none none none none none
  refine (for_pass (xs := [D.tup MS, v1, v2, ZZ, .lst MS, RP]) ?_ hml).trans ?_
  · simp [var, tl, hrep, japp]
  refine (asg_pass (d := .int Pz) ?_).trans ?_
  · simp [var, hshl]
  refine (asg_pass (d := Ll) ?_).trans ?_
  · simp [var, w2, hl]
  refine (asg_pass (d := bad) ?_).trans ?_
  · simp [var, w4, w5, opow30, hbq]
  have hiteJ : ∀ (r : SM) (e : Env), e = [some (.lst Sc), some DD, some N, some (.lst XS), o4, some R, some TT, some ZZ, some (.tup MS), some v1, some v2, o, o', some (.int Pz), some Ll, some bad, none, none, none, none] → seq (Py.ite (notT (tst (call m_law_judged (argC (var 6) (argC (var 9) argN))))) (Py.ite (orT (notT (tst (call m_law_step_refused (argC (var 5) (argC (var 9) (argC (var 14) (argC (cst (.bl true)) argN))))))) (notT (tst (call m_law_step_refused (argC (var 5) (argC (var 9) (argC (var 15) (argC (cst (.bl true)) argN)))))))) (ret (cst (.bl false))) skip) skip) r e = r e := by
    rintro r e rfl
    cases hJ : J v1 with
    | true =>
      rw [hJ] at hj1
      exact chk_pass (by simp [var, hj1])
    | false =>
      have r1 := hsr hJ Ll
      have r2 := hsr hJ bad
      rw [hJ] at hj1
      refine ite_in (by simp [var, hj1]) ?_
      simp [var, r1, r2]
  refine (hiteJ _ _ rfl).trans ?_
  refine (chk_pass ?_).trans ?_
  · simp [var, hsn]
  refine (asg_pass (d := .lst LS) ?_).trans ?_
  · simp [var, hc3', w3, eK, hrep1, hls]
  refine (asg_pass (d := .int At) ?_).trans ?_
  · simp [var, w6, lll, hmod]
  refine (asg_pass (d := RD0) ?_).trans ?_
  · simp [var, slc_eq, bnd_none, bnd_some, s1, s2, j1, j2]
  have hone : ∀ (r : SM) (e : Env), ∃ rd, m_law_reading_refused [R, rd] = .ok (.bl true) ∧ (e = [some (.lst Sc), some DD, some N, some (.lst XS), o4, some R, some TT, some ZZ, some (.tup MS), some v1, some v2, o, o', some (.int Pz), some Ll, some bad, some (.lst LS), some (.int At), some RD0, none] → seq (Py.ite (tst (bin oeq (bin oidx (var 1) (cst (.int 7))) (cst (.int 0)))) (asg (gnm 18) (bin oidx (lstE (argC (un blist (var 16)) (argC (cst .non) (argC (cst (.int 0)) (argC (cst (.str "01")) (argC (tupE (argC (un btuple (var 16)) argN)) (argC (cst (.bl true)) (argC (lstE argN) (argC (cst (.str "")) (argC (un oneg (cst (.int 1))) (argC (lstE (argC (tupE (argC (cst (.int 0)) argN)) argN)) (argC (var 13) (argC (tupE (argC (tupE argN) argN)) argN))))))))))))) (bin oidx (var 1) (cst (.int 4))))) skip) r e = r (e.set 18 (some rd))) := by
    intro r e
    by_cases h7 : d7 = 0
    · subst h7
      refine ⟨br, href1, ?_⟩
      rintro rfl
      refine ite_in (by simp [var, w7]) ?_
      simp [var, w4, hbrq]
    · refine ⟨RD0, href0, ?_⟩
      rintro rfl
      refine chk_pass ?_
      simp [var, w7, h7]
  obtain ⟨rd, href, hrd⟩ := hone _ _
  refine (hrd rfl).trans ?_
  refine (chk_pass ?_).trans ?_
  · simp [var, href]
  refine (asg_pass (d := .tup [A1, A2]) ?_).trans ?_
  · simp [var, hstep]
  have q4 : oisi CS [.tup] (.tup [A1, A2]) = .ok (.bl true) := rfl
  refine (chk_pass ?_).trans ?_
  · simp [var, q4, blen_t]
  simp [var, hkw2, hjz]
theorem law_true (ns : List Int) (h : ns.length ≤ 63) : m_law [.lst (ns.map .int)] = .ok (.bl true) := by
  have q := holds_ok ns
  unfold m_law
  rw [fn1]
  unfold b_law
  simp [var, q]
end Py.U

namespace Py
open PySem PySem.Spec PyProof.Rows L2

def top (i : Nat) : Stmt := PySem.Challenge.pw_onlycarries_k13_marks_and_faults.main.body.getD i (.Pass ⟨0, 0, 0, 0⟩)
abbrev st_as_tuple : Stmt := top 4
abbrev sc_as_tuple : Scope := defScope st_as_tuple
abbrev N_as_tuple : List Str := ["value"]
abbrev ow_as_tuple : Ow := owS []
abbrev d_as_tuple : He.DefD := ⟨("as_tuple", none), "as_tuple", "as_tuple", defArgs st_as_tuple, defBody st_as_tuple, sc_as_tuple, [], []⟩
abbrev st_is_integer : Stmt := top 1
abbrev sc_is_integer : Scope := defScope st_is_integer
abbrev N_is_integer : List Str := ["value"]
abbrev ow_is_integer : Ow := owS []
abbrev d_is_integer : He.DefD := ⟨("is_integer", none), "is_integer", "is_integer", defArgs st_is_integer, defBody st_is_integer, sc_is_integer, [], []⟩
abbrev st_is_below : Stmt := top 5
abbrev sc_is_below : Scope := defScope st_is_below
abbrev N_is_below : List Str := ["value", "limit"]
abbrev ow_is_below : Ow := owS []
abbrev d_is_below : He.DefD := ⟨("is_below", none), "is_below", "is_below", defArgs st_is_below, defBody st_is_below, sc_is_below, [], []⟩
abbrev st_are_values : Stmt := top 43
abbrev sc_are_values : Scope := defScope st_are_values
abbrev N_are_values : List Str := ["numbers", "many", "number"]
abbrev ow_are_values : Ow := owS []
abbrev d_are_values : He.DefD := ⟨("are_values", none), "are_values", "are_values", defArgs st_are_values, defBody st_are_values, sc_are_values, [], []⟩
abbrev st_is_count_deed : Stmt := top 44
abbrev sc_is_count_deed : Scope := defScope st_is_count_deed
abbrev N_is_count_deed : List Str := ["value", "many", "modulus", "rest", "parts"]
abbrev ow_is_count_deed : Ow := owS []
abbrev d_is_count_deed : He.DefD := ⟨("is_count_deed", none), "is_count_deed", "is_count_deed", defArgs st_is_count_deed, defBody st_is_count_deed, sc_is_count_deed, [], []⟩
abbrev st_is_deed : Stmt := top 45
abbrev sc_is_deed : Scope := defScope st_is_deed
abbrev N_is_deed : List Str := ["value", "many"]
abbrev ow_is_deed : Ow := owS []
abbrev d_is_deed : He.DefD := ⟨("is_deed", none), "is_deed", "is_deed", defArgs st_is_deed, defBody st_is_deed, sc_is_deed, [], []⟩
abbrev st_is_inputs : Stmt := top 3
abbrev sc_is_inputs : Scope := defScope st_is_inputs
abbrev N_is_inputs : List Str := ["value"]
abbrev ow_is_inputs : Ow := owS []
abbrev d_is_inputs : He.DefD := ⟨("is_inputs", none), "is_inputs", "is_inputs", defArgs st_is_inputs, defBody st_is_inputs, sc_is_inputs, [], []⟩
abbrev st_Row_init : Stmt := inClass (top 48) 0
abbrev sc_Row_init : Scope := defScope st_Row_init
abbrev N_Row_init : List Str := ["self", "inputs", "deeds", "out", "kept", "place", "deed"]
abbrev ow_Row_init : Ow := ⟨fun i => i == 0, none⟩
abbrev d_Row_init : He.DefD := ⟨("Row", some "__init__"), "__init__", "Row.__init__", defArgs st_Row_init, defBody st_Row_init, sc_Row_init, [], []⟩
abbrev st__law_alike : Stmt := top 58
abbrev sc__law_alike : Scope := defScope st__law_alike
abbrev N__law_alike : List Str := ["actual", "due", "k"]
abbrev ow__law_alike : Ow := owS []
abbrev d__law_alike : He.DefD := ⟨("_law_alike", none), "_law_alike", "_law_alike", defArgs st__law_alike, defBody st__law_alike, sc__law_alike, [], []⟩
abbrev st__law_cell : Stmt := top 50
abbrev sc__law_cell : Scope := defScope st__law_cell
abbrev N__law_cell : List Str := ["script", "k"]
abbrev ow__law_cell : Ow := owS []
abbrev d__law_cell : He.DefD := ⟨("_law_cell", none), "_law_cell", "_law_cell", defArgs st__law_cell, defBody st__law_cell, sc__law_cell, [], []⟩
abbrev st__law_deed : Stmt := top 53
abbrev sc__law_deed : Scope := defScope st__law_deed
abbrev N__law_deed : List Str := ["draws", "ready", "name", "one", "other", "prime", "parts"]
abbrev ow__law_deed : Ow := owS []
abbrev d__law_deed : He.DefD := ⟨("_law_deed", none), "_law_deed", "_law_deed", defArgs st__law_deed, defBody st__law_deed, sc__law_deed, [], []⟩
abbrev st__law_mixed : Stmt := top 51
abbrev sc__law_mixed : Scope := defScope st__law_mixed
abbrev N__law_mixed : List Str := ["cell", "k", "once", "twice"]
abbrev ow__law_mixed : Ow := owS []
abbrev d__law_mixed : He.DefD := ⟨("_law_mixed", none), "_law_mixed", "_law_mixed", defArgs st__law_mixed, defBody st__law_mixed, sc__law_mixed, [], []⟩
abbrev st__law_draws : Stmt := top 52
abbrev sc__law_draws : Scope := defScope st__law_draws
abbrev N__law_draws : List Str := ["cell", "sizes", "found", "left", "k"]
abbrev ow__law_draws : Ow := owS []
abbrev d__law_draws : He.DefD := ⟨("_law_draws", none), "_law_draws", "_law_draws", defArgs st__law_draws, defBody st__law_draws, sc__law_draws, [], []⟩
abbrev st__law_in_range : Stmt := top 55
abbrev sc__law_in_range : Scope := defScope st__law_in_range
abbrev N__law_in_range : List Str := ["thing", "low", "high"]
abbrev ow__law_in_range : Ow := owS []
abbrev d__law_in_range : He.DefD := ⟨("_law_in_range", none), "_law_in_range", "_law_in_range", defArgs st__law_in_range, defBody st__law_in_range, sc__law_in_range, [], []⟩
abbrev st__law_judged : Stmt := top 56
abbrev sc__law_judged : Scope := defScope st__law_judged
abbrev N__law_judged : List Str := ["tops", "thing", "k"]
abbrev ow__law_judged : Ow := owS []
abbrev d__law_judged : He.DefD := ⟨("_law_judged", none), "_law_judged", "_law_judged", defArgs st__law_judged, defBody st__law_judged, sc__law_judged, [], []⟩
abbrev st__law_other : Stmt := top 57
abbrev sc__law_other : Scope := defScope st__law_other
abbrev N__law_other : List Str := ["right", "tops", "draws", "things", "at", "bad"]
abbrev ow__law_other : Ow := owS []
abbrev d__law_other : He.DefD := ⟨("_law_other", none), "_law_other", "_law_other", defArgs st__law_other, defBody st__law_other, sc__law_other, [], []⟩
abbrev st_mark_deeds : Stmt := top 27
abbrev sc_mark_deeds : Scope := defScope st_mark_deeds
abbrev N_mark_deeds : List Str := ["row", "deed"]
abbrev ow_mark_deeds : Ow := owS []
abbrev d_mark_deeds : He.DefD := ⟨("mark_deeds", none), "mark_deeds", "mark_deeds", defArgs st_mark_deeds, defBody st_mark_deeds, sc_mark_deeds, [], []⟩
abbrev st_first_marks : Stmt := top 28
abbrev sc_first_marks : Scope := defScope st_first_marks
abbrev N_first_marks : List Str := ["row", "_"]
abbrev ow_first_marks : Ow := owS []
abbrev d_first_marks : He.DefD := ⟨("first_marks", none), "first_marks", "first_marks", defArgs st_first_marks, defBody st_first_marks, sc_first_marks, [], []⟩
abbrev st_is_reading : Stmt := top 24
abbrev sc_is_reading : Scope := defScope st_is_reading
abbrev N_is_reading : List Str := ["value", "inputs", "letter"]
abbrev ow_is_reading : Ow := owS []
abbrev d_is_reading : He.DefD := ⟨("is_reading", none), "is_reading", "is_reading", defArgs st_is_reading, defBody st_is_reading, sc_is_reading, [], []⟩
abbrev st_spread_mark : Stmt := top 32
abbrev sc_spread_mark : Scope := defScope st_spread_mark
abbrev N_spread_mark : List Str := ["many", "place", "mark", "block", "size", "lane", "at", "marks"]
abbrev ow_spread_mark : Ow := owS []
abbrev d_spread_mark : He.DefD := ⟨("spread_mark", none), "spread_mark", "spread_mark", defArgs st_spread_mark, defBody st_spread_mark, sc_spread_mark, [], []⟩
abbrev st_held_lanes : Stmt := top 33
abbrev sc_held_lanes : Scope := defScope st_held_lanes
abbrev N_held_lanes : List Str := ["row", "many", "block", "size", "held", "place", "deed", "rest"]
abbrev ow_held_lanes : Ow := owS []
abbrev d_held_lanes : He.DefD := ⟨("held_lanes", none), "held_lanes", "held_lanes", defArgs st_held_lanes, defBody st_held_lanes, sc_held_lanes, [], []⟩
abbrev st_mark_column : Stmt := top 37
abbrev sc_mark_column : Scope := defScope st_mark_column
abbrev N_mark_column : List Str := ["mark", "size", "at", "rest"]
abbrev ow_mark_column : Ow := owS []
abbrev d_mark_column : He.DefD := ⟨("mark_column", none), "mark_column", "mark_column", defArgs st_mark_column, defBody st_mark_column, sc_mark_column, [], []⟩
abbrev st_carry_step : Stmt := top 34
abbrev sc_carry_step : Scope := defScope st_carry_step
abbrev N_carry_step : List Str := ["name", "one", "other", "mark"]
abbrev ow_carry_step : Ow := owS []
abbrev d_carry_step : He.DefD := ⟨("carry_step", none), "carry_step", "carry_step", defArgs st_carry_step, defBody st_carry_step, sc_carry_step, [], []⟩
abbrev st_turned_counts : Stmt := top 35
abbrev sc_turned_counts : Scope := defScope st_turned_counts
abbrev N_turned_counts : List Str := ["held", "parts", "turned", "part", "rest"]
abbrev ow_turned_counts : Ow := owS []
abbrev d_turned_counts : He.DefD := ⟨("turned_counts", none), "turned_counts", "turned_counts", defArgs st_turned_counts, defBody st_turned_counts, sc_turned_counts, [], []⟩
abbrev st_run_deeds : Stmt := top 36
abbrev sc_run_deeds : Scope := defScope st_run_deeds
abbrev N_run_deeds : List Str := ["row", "begin", "held", "full", "lanes", "after", "deed", "name", "lane", "counts", "mark", "i"]
abbrev ow_run_deeds : Ow := owS []
abbrev d_run_deeds : He.DefD := ⟨("run_deeds", none), "run_deeds", "run_deeds", defArgs st_run_deeds, defBody st_run_deeds, sc_run_deeds, [], []⟩
abbrev st_place_step : Stmt := top 38
abbrev sc_place_step : Scope := defScope st_place_step
abbrev N_place_step : List Str := ["row", "marks", "letter", "begin", "lanes", "after", "i", "mark"]
abbrev ow_place_step : Ow := owS []
abbrev d_place_step : He.DefD := ⟨("place_step", none), "place_step", "place_step", defArgs st_place_step, defBody st_place_step, sc_place_step, [], []⟩
abbrev st_marks_after : Stmt := top 40
abbrev sc_marks_after : Scope := defScope st_marks_after
abbrev N_marks_after : List Str := ["row", "reading", "marks", "letter"]
abbrev ow_marks_after : Ow := owS []
abbrev d_marks_after : He.DefD := ⟨("marks_after", none), "marks_after", "marks_after", defArgs st_marks_after, defBody st_marks_after, sc_marks_after, [], []⟩
abbrev st__law_reading_refused : Stmt := top 60
abbrev sc__law_reading_refused : Scope := defScope st__law_reading_refused
abbrev N__law_reading_refused : List Str := ["row", "reading", "e"]
abbrev ow__law_reading_refused : Ow := owS []
abbrev d__law_reading_refused : He.DefD := ⟨("_law_reading_refused", none), "_law_reading_refused", "_law_reading_refused", defArgs st__law_reading_refused, defBody st__law_reading_refused, sc__law_reading_refused, [], []⟩
abbrev st_fits_limits : Stmt := top 30
abbrev sc_fits_limits : Scope := defScope st_fits_limits
abbrev N_fits_limits : List Str := ["value", "limits", "mark", "limit"]
abbrev ow_fits_limits : Ow := owS []
abbrev d_fits_limits : He.DefD := ⟨("fits_limits", none), "fits_limits", "fits_limits", defArgs st_fits_limits, defBody st_fits_limits, sc_fits_limits, [], []⟩
abbrev st_mark_limits : Stmt := top 29
abbrev sc_mark_limits : Scope := defScope st_mark_limits
abbrev N_mark_limits : List Str := ["row", "deed"]
abbrev ow_mark_limits : Ow := owS []
abbrev d_mark_limits : He.DefD := ⟨("mark_limits", none), "mark_limits", "mark_limits", defArgs st_mark_limits, defBody st_mark_limits, sc_mark_limits, [], []⟩
abbrev st_is_marks : Stmt := top 31
abbrev sc_is_marks : Scope := defScope st_is_marks
abbrev N_is_marks : List Str := ["row", "value"]
abbrev ow_is_marks : Ow := owS []
abbrev d_is_marks : He.DefD := ⟨("is_marks", none), "is_marks", "is_marks", defArgs st_is_marks, defBody st_is_marks, sc_is_marks, [], []⟩
abbrev st_mark_step : Stmt := top 39
abbrev sc_mark_step : Scope := defScope st_mark_step
abbrev N_mark_step : List Str := ["row", "marks", "letter"]
abbrev ow_mark_step : Ow := owS []
abbrev d_mark_step : He.DefD := ⟨("mark_step", none), "mark_step", "mark_step", defArgs st_mark_step, defBody st_mark_step, sc_mark_step, [], []⟩
abbrev st__law_step_refused : Stmt := top 59
abbrev sc__law_step_refused : Scope := defScope st__law_step_refused
abbrev N__law_step_refused : List Str := ["row", "thing", "letter", "first", "e"]
abbrev ow__law_step_refused : Ow := owS []
abbrev d__law_step_refused : He.DefD := ⟨("_law_step_refused", none), "_law_step_refused", "_law_step_refused", defArgs st__law_step_refused, defBody st__law_step_refused, sc__law_step_refused, [], []⟩
abbrev st__law_tops : Stmt := top 54
abbrev sc__law_tops : Scope := defScope st__law_tops
abbrev N__law_tops : List Str := ["deeds", "tops", "deed"]
abbrev ow__law_tops : Ow := owS []
abbrev d__law_tops : He.DefD := ⟨("_law_tops", none), "_law_tops", "_law_tops", defArgs st__law_tops, defBody st__law_tops, sc__law_tops, [], []⟩
abbrev st__law_holds : Stmt := top 61
abbrev sc__law_holds : Scope := defScope st__law_holds
abbrev N__law_holds : List Str := ["script", "draws", "inputs", "deeds", "j", "row", "tops", "start", "right", "thing", "more", "one", "answer", "top", "letter", "bad", "letters", "at", "reading", "told"]
abbrev ow__law_holds : Ow := owS []
abbrev d__law_holds : He.DefD := ⟨("_law_holds", none), "_law_holds", "_law_holds", defArgs st__law_holds, defBody st__law_holds, sc__law_holds, [], []⟩
abbrev st_law : Stmt := top 62
abbrev sc_law : Scope := defScope st_law
abbrev N_law : List Str := ["script"]
abbrev ow_law : Ow := owS []
abbrev d_law : He.DefD := ⟨("law", none), "law", "law", defArgs st_law, defBody st_law, sc_law, [], []⟩
abbrev st_InvalidRow_init : Stmt := inClass (top 14) 0
abbrev sc_InvalidRow_init : Scope := defScope st_InvalidRow_init
abbrev N_InvalidRow_init : List Str := ["self", "part", "place", "__class__"]
abbrev d_InvalidRow_init : He.DefD := ⟨("InvalidRow", some "__init__"), "__init__", "InvalidRow.__init__", defArgs st_InvalidRow_init, defBody st_InvalidRow_init, sc_InvalidRow_init, [], []⟩
abbrev st_InvalidReading_init : Stmt := inClass (top 12) 0
abbrev sc_InvalidReading_init : Scope := defScope st_InvalidReading_init
abbrev N_InvalidReading_init : List Str := ["self", "value", "__class__"]
abbrev d_InvalidReading_init : He.DefD := ⟨("InvalidReading", some "__init__"), "__init__", "InvalidReading.__init__", defArgs st_InvalidReading_init, defBody st_InvalidReading_init, sc_InvalidReading_init, [], []⟩
abbrev st_InvalidMarks_init : Stmt := inClass (top 15) 0
abbrev sc_InvalidMarks_init : Scope := defScope st_InvalidMarks_init
abbrev N_InvalidMarks_init : List Str := ["self", "value", "__class__"]
abbrev d_InvalidMarks_init : He.DefD := ⟨("InvalidMarks", some "__init__"), "__init__", "InvalidMarks.__init__", defArgs st_InvalidMarks_init, defBody st_InvalidMarks_init, sc_InvalidMarks_init, [], []⟩
abbrev st_InvalidNumber_init : Stmt := inClass (top 10) 0
abbrev sc_InvalidNumber_init : Scope := defScope st_InvalidNumber_init
abbrev N_InvalidNumber_init : List Str := ["self", "value", "__class__"]
abbrev d_InvalidNumber_init : He.DefD := ⟨("InvalidNumber", some "__init__"), "__init__", "InvalidNumber.__init__", defArgs st_InvalidNumber_init, defBody st_InvalidNumber_init, sc_InvalidNumber_init, [], []⟩
abbrev FILE : Str := "/claim/cut.py"
abbrev xfs : List He.DefD := [d_InvalidRow_init, d_InvalidReading_init, d_InvalidMarks_init, d_InvalidNumber_init]
abbrev fa : List He.Fa := [.free "range", .free "len", .free "list", .free "tuple", .free "isinstance", .free "bool", .free "enumerate", .free "int", .free "str", .glo "SIZES", .free "all", .glo "Row", .glo "InvalidWords", .glo "InvalidNumber", .glo "InvalidMachine", .glo "InvalidRow", .glo "InvalidMarks", .glo "InvalidKind", .glo "InvalidPrimes", .glo "InvalidText", .glo "InvalidCommand", .glo "Undefined", .glo "NothingToDo", .glo "NothingKept", .glo "InvalidReading", .free "ValueError", .glo "CarryError", .glo "MARKED", .free "sum", .free "zip", .glo "as_tuple", .glo "is_integer", .glo "is_below", .glo "are_values", .glo "is_count_deed", .glo "is_deed", .glo "is_inputs", .mkr "Row", .glo "_law_alike", .glo "_law_cell", .glo "_law_deed", .glo "_law_mixed", .glo "_law_draws", .glo "_law_in_range", .glo "_law_judged", .glo "_law_other", .glo "mark_deeds", .glo "first_marks", .glo "is_reading", .glo "spread_mark", .glo "held_lanes", .glo "mark_column", .glo "carry_step", .glo "turned_counts", .glo "run_deeds", .glo "place_step", .glo "marks_after", .glo "_law_reading_refused", .glo "fits_limits", .glo "mark_limits", .glo "is_marks", .glo "mark_step", .glo "_law_step_refused", .glo "_law_tops", .glo "_law_holds", .glo "law", .free "super"]
abbrev fns : List He.DefD := [d_as_tuple, d_is_integer, d_is_below, d_are_values, d_is_count_deed, d_is_deed, d_is_inputs, d_Row_init, d__law_alike, d__law_cell, d__law_deed, d__law_mixed, d__law_draws, d__law_in_range, d__law_judged, d__law_other, d_mark_deeds, d_first_marks, d_is_reading, d_spread_mark, d_held_lanes, d_mark_column, d_carry_step, d_turned_counts, d_run_deeds, d_place_step, d_marks_after, d__law_reading_refused, d_fits_limits, d_mark_limits, d_is_marks, d_mark_step, d__law_step_refused, d__law_tops, d__law_holds, d_law]
abbrev tbs : List He.Tab := [tabT "SIZES" tab_SIZES]
abbrev mss : List (Frag → Bool) := [kitC CS, attB ["Row"] "inputs", attB ["Row"] "deeds", attB ["Row"] "out", tabB "SIZES" tab_SIZES, ersB ES EALL EFL, tupC "MARKED" tup_MARKED, errB FILE "InvalidRow" "InvalidRow.__init__" ["part", "place"], errB FILE "InvalidReading" "InvalidReading.__init__" ["value"], errB FILE "InvalidMarks" "InvalidMarks.__init__" ["value"], errB FILE "InvalidNumber" "InvalidNumber.__init__" ["value"]]
abbrev Fs (P : Program) (w : World) (K : Frag) (mg : Str → Option Value) : Prop := FactsY fa fns xfs tbs mss FILE P w K mg
section
variable {P : Program} {w : World} {K : Frag} {mg : Str → Option Value} {base : Heap}
theorem S_InvalidRow_init : NdefX.NScope N_InvalidRow_init ["self", "part", "place"] ["__class__"] sc_InvalidRow_init := NdefX.nscope_by (by decide +kernel)
theorem er_InvalidRow (Y : Fs P w K mg) : ErrOk P w K mg base 1 "InvalidRow" ["part", "place"] :=
  err_ok (k := 0) (self := "self") (N := N_InvalidRow_init) (ps := ["self", "part", "place"]) (Y.err 0 7 (d := d_InvalidRow_init) (c := "InvalidRow") (fs := ["part", "place"])) (Y.glo 15) (Y.free 66) Y.ps rfl S_InvalidRow_init rfl rfl rfl rfl (fun _ _ _ _ _ _ _ us hl => match us, hl with | [_, _, _], _ => rfl)
    (fun _ _ _ _ _ _ _ _ => (pss_cons (ps_ost (pv 0) (pv 1)) (pss_one (ps_ost (pv 0) (pv 2)))))
    (fun a ws H1 Dn σ h0 h1 hl hn q => fld_two (Y.err 0 7 (d := d_InvalidRow_init) (c := "InvalidRow") (fs := ["part", "place"])).T ((Y.err 0 7 (d := d_InvalidRow_init) (c := "InvalidRow") (fs := ["part", "place"])).no _ (by simp)) ((Y.err 0 7 (d := d_InvalidRow_init) (c := "InvalidRow") (fs := ["part", "place"])).no _ (by simp)) h0 h1 hl hn q) (fun _ _ _ _ => rfl) (fun _ _ _ _ => rfl) (fun _ _ _ _ => rfl) (fun _ _ _ _ => rfl)
theorem S_InvalidReading_init : NdefX.NScope N_InvalidReading_init ["self", "value"] ["__class__"] sc_InvalidReading_init := NdefX.nscope_by (by decide +kernel)
theorem er_InvalidReading (Y : Fs P w K mg) : ErrOk P w K mg base 1 "InvalidReading" ["value"] :=
  err_ok (k := 0) (self := "self") (N := N_InvalidReading_init) (ps := ["self", "value"]) (Y.err 1 8 (d := d_InvalidReading_init) (c := "InvalidReading") (fs := ["value"])) (Y.glo 24) (Y.free 66) Y.ps rfl S_InvalidReading_init rfl rfl rfl rfl (fun _ _ _ _ _ _ _ us hl => match us, hl with | [_, _], _ => rfl)
    (fun _ _ _ _ _ _ _ _ => (pss_one (ps_ost (pv 0) (pv 1))))
    (fun a ws H1 Dn σ h0 h1 hl hn q => fld_one (Y.err 1 8 (d := d_InvalidReading_init) (c := "InvalidReading") (fs := ["value"])).T ((Y.err 1 8 (d := d_InvalidReading_init) (c := "InvalidReading") (fs := ["value"])).no _ (by simp)) h0 h1 hl hn q) (fun _ _ _ _ => rfl) (fun _ _ _ _ => rfl) (fun _ _ _ _ => rfl) (fun _ _ _ _ => rfl)
theorem S_InvalidMarks_init : NdefX.NScope N_InvalidMarks_init ["self", "value"] ["__class__"] sc_InvalidMarks_init := NdefX.nscope_by (by decide +kernel)
theorem er_InvalidMarks (Y : Fs P w K mg) : ErrOk P w K mg base 1 "InvalidMarks" ["value"] :=
  err_ok (k := 0) (self := "self") (N := N_InvalidMarks_init) (ps := ["self", "value"]) (Y.err 2 9 (d := d_InvalidMarks_init) (c := "InvalidMarks") (fs := ["value"])) (Y.glo 16) (Y.free 66) Y.ps rfl S_InvalidMarks_init rfl rfl rfl rfl (fun _ _ _ _ _ _ _ us hl => match us, hl with | [_, _], _ => rfl)
    (fun _ _ _ _ _ _ _ _ => (pss_one (ps_ost (pv 0) (pv 1))))
    (fun a ws H1 Dn σ h0 h1 hl hn q => fld_one (Y.err 2 9 (d := d_InvalidMarks_init) (c := "InvalidMarks") (fs := ["value"])).T ((Y.err 2 9 (d := d_InvalidMarks_init) (c := "InvalidMarks") (fs := ["value"])).no _ (by simp)) h0 h1 hl hn q) (fun _ _ _ _ => rfl) (fun _ _ _ _ => rfl) (fun _ _ _ _ => rfl) (fun _ _ _ _ => rfl)
theorem S_InvalidNumber_init : NdefX.NScope N_InvalidNumber_init ["self", "value"] ["__class__"] sc_InvalidNumber_init := NdefX.nscope_by (by decide +kernel)
theorem er_InvalidNumber (Y : Fs P w K mg) : ErrOk P w K mg base 1 "InvalidNumber" ["value"] :=
  err_ok (k := 0) (self := "self") (N := N_InvalidNumber_init) (ps := ["self", "value"]) (Y.err 3 10 (d := d_InvalidNumber_init) (c := "InvalidNumber") (fs := ["value"])) (Y.glo 13) (Y.free 66) Y.ps rfl S_InvalidNumber_init rfl rfl rfl rfl (fun _ _ _ _ _ _ _ us hl => match us, hl with | [_, _], _ => rfl)
    (fun _ _ _ _ _ _ _ _ => (pss_one (ps_ost (pv 0) (pv 1))))
    (fun a ws H1 Dn σ h0 h1 hl hn q => fld_one (Y.err 3 10 (d := d_InvalidNumber_init) (c := "InvalidNumber") (fs := ["value"])).T ((Y.err 3 10 (d := d_InvalidNumber_init) (c := "InvalidNumber") (fs := ["value"])).no _ (by simp)) h0 h1 hl hn q) (fun _ _ _ _ => rfl) (fun _ _ _ _ => rfl) (fun _ _ _ _ => rfl) (fun _ _ _ _ => rfl)
theorem SH__law_alike : FnScope N__law_alike ["actual", "due"] sc__law_alike := ⟨rfl, rfl, rfl, by decide +kernel, rfl, by decide +kernel, by decide +kernel⟩
theorem cH_law_alike (Y : Fs P w K mg) : ∀ k : Nat, CallH P w K mg base (1 + k) "_law_alike" d__law_alike ["actual", "due"] 2 (m_law_alike k)
  | 0 => def_okH (d := d__law_alike) (N := N__law_alike) (ps := ["actual", "due"]) (p := 2) (m := dead) (k := 0) (ow := ow__law_alike) (oN := owS []) (oB := owS []) (Y.def_ 8) (Y.glo 38) SH__law_alike rfl rfl (by decide) (fun _ _ _ _ _ _ us hl => match us, hl with | [_, _], _ => rfl) (fun cdv A outer s H E q T => ss_dead)
  | k + 1 => def_okH (d := d__law_alike) (N := N__law_alike) (ps := ["actual", "due"]) (p := 2) (k := 1 + k) (ow := ow__law_alike) (oN := owS []) (oB := owS []) (Y.def_ 8) (Y.glo 38) SH__law_alike rfl rfl (by decide) (fun _ _ _ _ _ _ us hl => match us, hl with | [_, _], _ => rfl) (fun cdv A outer s H E q T => (ss_cons (s_if (t_tst (w_of (x_isiT (cs := CS) (ts := [.lst, .tup]) rfl (kit_of_b (Y.more 0)) rfl (Y.free 4) (w_of (x_var (pv 1) rfl)) (TyL.cons (t := .lst) (pe_bltn rfl (Y.free 2) hv_list rfl) (TyL.cons (t := .tup) (pe_bltn rfl (Y.free 3) hv_tuple rfl) TyL.nil rfl) rfl) (by decide))) (by intro _; rfl)) (ss_cons (s_if (PW.pt (t_or (t_not (t_tst (w_of (x_isiT (cs := CS) (ts := [.lst, .tup]) rfl (kit_of_b (Y.more 0)) rfl (Y.free 4) (w_of (x_var (pv 0) rfl)) (TyL.cons (t := .lst) (pe_bltn rfl (Y.free 2) hv_list rfl) (TyL.cons (t := .tup) (pe_bltn rfl (Y.free 3) hv_tuple rfl) TyL.nil rfl) rfl) (by decide))) (by intro _; rfl))) (t_or1 (t_cmp T.ne n_ne b_ne (w_of (x_isi1 (cs := CS) (t := .lst) rfl (kit_of_b (Y.more 0)) rfl (Y.free 4) (w_of (x_var (pv 0) rfl)) (pe_bltn rfl (Y.free 2) hv_list rfl))) (w_of (x_isi1 (cs := CS) (t := .lst) rfl (kit_of_b (Y.more 0)) rfl (Y.free 4) (w_of (x_var (pv 1) rfl)) (pe_bltn rfl (Y.free 2) hv_list rfl))) rfl)))) (ss_one (s_ret x_bl)) ss_nil)
  (ss_cons (s_if (t_cmp T.ne n_ne b_ne (w_of (x_b1 v_len n_len rfl (Y.free 1) hv_len (w_of (x_var (pv 0) rfl)))) (w_of (x_b1 v_len n_len rfl (Y.free 1) hv_len (w_of (x_var (pv 1) rfl)))) rfl) (ss_one (s_ret x_bl)) ss_nil)
  (ss_cons (s_forH T.po T.hot (i_rng1H rfl (Y.free 0) (x_b1 v_len n_len rfl (Y.free 1) hv_len (w_of (x_var (pv 1) rfl)))) (g_nm (pg_name (i := 2) T.nd rfl (Or.inl rfl)) rfl) (ss_one (s_if (t_not (t_tst (w_of (x_own1H T (cH_law_alike Y k) (Nat.le_refl _) rfl (xa_cons (x_idx (w_of (x_var (pv 0) rfl)) (w_of (x_var (pv 2) rfl))) (xa_cons (x_idx (w_of (x_var (pv 1) rfl)) (w_of (x_var (pv 2) rfl))) xa_nil)))) (by intro _; rfl))) (ss_one (s_ret x_bl)) ss_nil)))
  (ss_one (s_ret x_bl))))) ss_nil)
  (ss_cons (s_if (t_isN (w_of (x_var (pv 1) rfl))) (ss_one (s_ret (x_isN (w_of (x_var (pv 0) rfl))))) ss_nil)
  (ss_cons (s_if (t_tst (w_of (x_isi1 (cs := CS) (t := (.cls "Row")) rfl (kit_of_b (Y.more 0)) rfl (Y.free 4) (w_of (x_var (pv 1) rfl)) (pe_glob rfl (Y.glo 11) rfl))) (by intro _; rfl)) (ss_one (s_ret (x_and (x_isi1 (cs := CS) (t := (.cls "Row")) rfl (kit_of_b (Y.more 0)) rfl (Y.free 4) (w_of (x_var (pv 0) rfl)) (pe_glob rfl (Y.glo 11) rfl)) (x_and (x_cmp T.eq n_eq (w_of (x_attr (att_ok (Y.more 1)) (w_of (x_var (pv 0) rfl)))) (w_of (x_attr (att_ok (Y.more 1)) (w_of (x_var (pv 1) rfl)))) rfl) (x_and (x_cmp T.eq n_eq (w_of (x_attr (att_ok (Y.more 2)) (w_of (x_var (pv 0) rfl)))) (w_of (x_attr (att_ok (Y.more 2)) (w_of (x_var (pv 1) rfl)))) rfl) (x_one (x_cmp T.eq n_eq (w_of (x_attr (att_ok (Y.more 3)) (w_of (x_var (pv 0) rfl)))) (w_of (x_attr (att_ok (Y.more 3)) (w_of (x_var (pv 1) rfl)))) rfl))))))) ss_nil)
  (ss_cons (s_if (PW.pt (t_or (t_tst (w_of (x_isi1 (cs := CS) (t := .bl) rfl (kit_of_b (Y.more 0)) rfl (Y.free 4) (w_of (x_var (pv 1) rfl)) (pe_bltn rfl (Y.free 5) hv_bool rfl))) (by intro _; rfl)) (t_or1 (t_tst (w_of (x_isi1 (cs := CS) (t := .bl) rfl (kit_of_b (Y.more 0)) rfl (Y.free 4) (w_of (x_var (pv 0) rfl)) (pe_bltn rfl (Y.free 5) hv_bool rfl))) (by intro _; rfl))))) (ss_one (s_ret (x_and (x_isi1 (cs := CS) (t := .bl) rfl (kit_of_b (Y.more 0)) rfl (Y.free 4) (w_of (x_var (pv 1) rfl)) (pe_bltn rfl (Y.free 5) hv_bool rfl)) (x_and (x_isi1 (cs := CS) (t := .bl) rfl (kit_of_b (Y.more 0)) rfl (Y.free 4) (w_of (x_var (pv 0) rfl)) (pe_bltn rfl (Y.free 5) hv_bool rfl)) (x_one (x_cmp T.eq n_eq (w_of (x_var (pv 0) rfl)) (w_of (x_var (pv 1) rfl)) rfl)))))) ss_nil)
  (ss_cons (s_if (t_tst (w_of (x_isi1 (cs := CS) (t := .str) rfl (kit_of_b (Y.more 0)) rfl (Y.free 4) (w_of (x_var (pv 1) rfl)) (pe_bltn rfl (Y.free 8) hv_str rfl))) (by intro _; rfl)) (ss_one (s_ret (x_and (x_isi1 (cs := CS) (t := .str) rfl (kit_of_b (Y.more 0)) rfl (Y.free 4) (w_of (x_var (pv 0) rfl)) (pe_bltn rfl (Y.free 8) hv_str rfl)) (x_one (x_cmp T.eq n_eq (w_of (x_var (pv 0) rfl)) (w_of (x_var (pv 1) rfl)) rfl))))) ss_nil)
  (ss_one (s_ret (x_and (x_isi1 (cs := CS) (t := .int) rfl (kit_of_b (Y.more 0)) rfl (Y.free 4) (w_of (x_var (pv 0) rfl)) (pe_bltn rfl (Y.free 7) hv_int rfl)) (x_one (x_cmp T.eq n_eq (w_of (x_var (pv 0) rfl)) (w_of (x_var (pv 1) rfl)) rfl)))))))))))
theorem S_as_tuple : FnScope N_as_tuple ["value"] sc_as_tuple := ⟨rfl, rfl, rfl, by decide +kernel, rfl, by decide +kernel, by decide +kernel⟩
theorem c_as_tuple (Y : Fs P w K mg) : CallOk P w K mg base 1 "as_tuple" d_as_tuple ["value"] 1 m_as_tuple :=
  def_ok (d := d_as_tuple) (N := N_as_tuple) (ps := ["value"]) (p := 1) (m := b_as_tuple) (k := 0) (ow := ow_as_tuple) (Y.def_ 0) (Y.glo 30) S_as_tuple rfl rfl (by decide) (fun _ _ _ _ _ _ us hl => match us, hl with | [_], _ => rfl) (fun cdv A outer s H E T => (ss_cons (s_if (t_tst (w_of (x_isiT (cs := CS) (ts := [.lst, .tup]) rfl (kit_of_b (Y.more 0)) rfl (Y.free 4) (w_of (x_var (pv 0) rfl)) (TyL.cons (t := .lst) (pe_bltn rfl (Y.free 2) hv_list rfl) (TyL.cons (t := .tup) (pe_bltn rfl (Y.free 3) hv_tuple rfl) TyL.nil rfl) rfl) (by decide))) (by intro _; rfl)) (ss_one (s_ret (x_t1 v_tuple n_tuple rfl (Y.free 3) hv_tuple (w_of (x_var (pv 0) rfl))))) ss_nil)
  (ss_one (s_ret x_non))))
theorem S_is_integer : FnScope N_is_integer ["value"] sc_is_integer := ⟨rfl, rfl, rfl, by decide +kernel, rfl, by decide +kernel, by decide +kernel⟩
theorem c_is_integer (Y : Fs P w K mg) : CallOk P w K mg base 1 "is_integer" d_is_integer ["value"] 1 m_is_integer :=
  def_ok (d := d_is_integer) (N := N_is_integer) (ps := ["value"]) (p := 1) (m := b_is_integer) (k := 0) (ow := ow_is_integer) (Y.def_ 1) (Y.glo 31) S_is_integer rfl rfl (by decide) (fun _ _ _ _ _ _ us hl => match us, hl with | [_], _ => rfl) (fun cdv A outer s H E T => (ss_one (s_ret (x_and (x_isi1 (cs := CS) (t := .int) rfl (kit_of_b (Y.more 0)) rfl (Y.free 4) (w_of (x_var (pv 0) rfl)) (pe_bltn rfl (Y.free 7) hv_int rfl)) (x_one (x_not (x_isi1 (cs := CS) (t := .bl) rfl (kit_of_b (Y.more 0)) rfl (Y.free 4) (w_of (x_var (pv 0) rfl)) (pe_bltn rfl (Y.free 5) hv_bool rfl))))))))
theorem S_is_below : FnScope N_is_below ["value", "limit"] sc_is_below := ⟨rfl, rfl, rfl, by decide +kernel, rfl, by decide +kernel, by decide +kernel⟩
theorem c_is_below (Y : Fs P w K mg) : CallOk P w K mg base 2 "is_below" d_is_below ["value", "limit"] 2 m_is_below :=
  def_ok (d := d_is_below) (N := N_is_below) (ps := ["value", "limit"]) (p := 2) (m := b_is_below) (k := 1) (ow := ow_is_below) (Y.def_ 2) (Y.glo 32) S_is_below rfl rfl (by decide) (fun _ _ _ _ _ _ us hl => match us, hl with | [_, _], _ => rfl) (fun cdv A outer s H E T => (ss_one (s_ret (x_and (x_own1 T (c_is_integer Y) (by decide) rfl (xa_cons (x_var (pv 0) rfl) xa_nil)) (x_one (x_chain y_le y_lt n_le n_lt (w_of x_int) (w_of (x_var (pv 0) rfl)) (w_of (x_var (pv 1) rfl))))))))
theorem S_are_values : FnScope N_are_values ["numbers", "many"] sc_are_values := ⟨rfl, rfl, rfl, by decide +kernel, rfl, by decide +kernel, by decide +kernel⟩
theorem c_are_values (Y : Fs P w K mg) : CallOk P w K mg base 3 "are_values" d_are_values ["numbers", "many"] 2 m_are_values :=
  def_ok (d := d_are_values) (N := N_are_values) (ps := ["numbers", "many"]) (p := 2) (m := b_are_values) (k := 2) (ow := ow_are_values) (Y.def_ 3) (Y.glo 33) S_are_values rfl rfl (by decide) (fun _ _ _ _ _ _ us hl => match us, hl with | [_, _], _ => rfl) (fun cdv A outer s H E T => (ss_one (s_ret (x_b1 (v_all T.calm) n_all rfl (Y.free 10) hv_all (w_of (e_of (f_lc (own := [("number", 2)]) T (i_gr (i_seq (x_var (pv 0) rfl))) (blkOk_by (N := N_are_values) (sc := sc_are_values) (own := [("number", 2)]) (by decide +kernel)) (fun _ _ _ _ _ T1 => (g_nm (pg_name (i := 2) T1.nd rfl (Or.inl rfl)) rfl)) (fun _ _ _ _ _ T1 => ts_nil) (fun _ _ _ _ _ T1 => (x_own1 T1 (c_is_below Y) (by decide) rfl (xa_cons (x_var (pv 2) rfl) (xa_cons (x_var (pv 1) rfl) xa_nil)))) (by decide))))))))
theorem S_is_count_deed : FnScope N_is_count_deed ["value", "many"] sc_is_count_deed := ⟨rfl, rfl, rfl, by decide +kernel, rfl, by decide +kernel, by decide +kernel⟩
theorem c_is_count_deed (Y : Fs P w K mg) : CallOk P w K mg base 4 "is_count_deed" d_is_count_deed ["value", "many"] 2 m_is_count_deed :=
  def_ok (d := d_is_count_deed) (N := N_is_count_deed) (ps := ["value", "many"]) (p := 2) (m := b_is_count_deed) (k := 3) (ow := ow_is_count_deed) (Y.def_ 4) (Y.glo 34) S_is_count_deed rfl rfl (by decide) (fun _ _ _ _ _ _ us hl => match us, hl with | [_, _], _ => rfl) (fun cdv A outer s H E T => (ss_cons (s_if (t_cmp T.ne n_ne b_ne (w_of (x_b1 v_len n_len rfl (Y.free 1) hv_len (w_of (x_var (pv 0) rfl)))) (w_of x_int) rfl) (ss_one (s_ret x_bl)) ss_nil)
  (ss_cons (s_gen (ps_asg (x_slc (w_of (x_var (pv 0) rfl)) (o_some x_int) o_none) (g_tup T.calm (gs_cons (g_nm (pg_name (i := 2) T.nd rfl (Or.inl rfl)) rfl) (gs_cons (g_nm (pg_name (i := 3) T.nd rfl (Or.inl rfl)) rfl) (gs_cons (g_nm (pg_name (i := 4) T.nd rfl (Or.inl rfl)) rfl) gs_nil))))))
  (ss_cons (s_if (PW.pt (t_or (t_not (t_tst (w_of (x_own1 T (c_is_integer Y) (by decide) rfl (xa_cons (x_var (pv 2) rfl) xa_nil))) (by intro _; rfl))) (t_or (t_cmp y_notin n_notin b_notin (w_of (x_var (pv 2) rfl)) (w_of (x_tup (xa_cons x_int (xa_cons x_int (xa_cons x_int xa_nil))))) rfl) (t_or1 (t_not (t_tst (w_of (x_own1 T (c_is_below Y) (by decide) rfl (xa_cons (x_var (pv 3) rfl) (xa_cons (x_var (pv 2) rfl) xa_nil)))) (by intro _; rfl))))))) (ss_one (s_ret x_bl)) ss_nil)
  (ss_one (s_ret (x_and (x_isi1 (cs := CS) (t := .tup) rfl (kit_of_b (Y.more 0)) rfl (Y.free 4) (w_of (x_var (pv 4) rfl)) (pe_bltn rfl (Y.free 3) hv_tuple rfl)) (x_and (x_chain y_le y_le n_le n_le (w_of x_int) (w_of (x_b1 v_len n_len rfl (Y.free 1) hv_len (w_of (x_var (pv 4) rfl)))) (w_of x_int)) (x_one (x_own1 T (c_are_values Y) (by decide) rfl (xa_cons (x_var (pv 4) rfl) (xa_cons (x_var (pv 1) rfl) xa_nil))))))))))))
theorem S_is_deed : FnScope N_is_deed ["value", "many"] sc_is_deed := ⟨rfl, rfl, rfl, by decide +kernel, rfl, by decide +kernel, by decide +kernel⟩
theorem c_is_deed (Y : Fs P w K mg) : CallOk P w K mg base 5 "is_deed" d_is_deed ["value", "many"] 2 m_is_deed :=
  def_ok (d := d_is_deed) (N := N_is_deed) (ps := ["value", "many"]) (p := 2) (m := b_is_deed) (k := 4) (ow := ow_is_deed) (Y.def_ 5) (Y.glo 35) S_is_deed rfl rfl (by decide) (fun _ _ _ _ _ _ us hl => match us, hl with | [_, _], _ => rfl) (fun cdv A outer s H E T => (ss_cons (s_if (PW.pt (t_or (t_not (t_tst (w_of (x_isi1 (cs := CS) (t := .tup) rfl (kit_of_b (Y.more 0)) rfl (Y.free 4) (w_of (x_var (pv 0) rfl)) (pe_bltn rfl (Y.free 3) hv_tuple rfl))) (by intro _; rfl))) (t_or (t_not (t_tst (w_of (x_var (pv 0) rfl)) (by intro _; rfl))) (t_or1 (t_not (t_tst (w_of (x_isi1 (cs := CS) (t := .str) rfl (kit_of_b (Y.more 0)) rfl (Y.free 4) (w_of (x_idx (w_of (x_var (pv 0) rfl)) (w_of x_int))) (pe_bltn rfl (Y.free 8) hv_str rfl))) (by intro _; rfl))))))) (ss_one (s_ret x_bl)) ss_nil)
  (ss_cons (s_if (t_cmp T.eq n_eq b_eq (w_of (x_idx (w_of (x_var (pv 0) rfl)) (w_of x_int))) (w_of (x_str (s := "count"))) rfl) (ss_one (s_ret (x_own1 T (c_is_count_deed Y) (by decide) rfl (xa_cons (x_var (pv 0) rfl) (xa_cons (x_var (pv 1) rfl) xa_nil))))) ss_nil)
  (ss_cons (s_if (PW.pt (t_or (t_nothas (Y.tab 0 4 9) rfl (x_idx (w_of (x_var (pv 0) rfl)) (w_of x_int))) (t_or1 (t_cmp T.ne n_ne b_ne (w_of (x_b1 v_len n_len rfl (Y.free 1) hv_len (w_of (x_var (pv 0) rfl)))) (w_of (x_bin y_add n_add (w_of (x_look (Y.tab 0 4 9) rfl (x_idx (w_of (x_var (pv 0) rfl)) (w_of x_int)))) (w_of x_int))) rfl)))) (ss_one (s_ret x_bl)) ss_nil)
  (ss_one (s_ret (x_own1 T (c_are_values Y) (by decide) rfl (xa_cons (x_slc (w_of (x_var (pv 0) rfl)) (o_some x_int) o_none) (xa_cons (x_var (pv 1) rfl) xa_nil)))))))))
theorem S_is_inputs : FnScope N_is_inputs ["value"] sc_is_inputs := ⟨rfl, rfl, rfl, by decide +kernel, rfl, by decide +kernel, by decide +kernel⟩
theorem c_is_inputs (Y : Fs P w K mg) : CallOk P w K mg base 2 "is_inputs" d_is_inputs ["value"] 1 m_is_inputs :=
  def_ok (d := d_is_inputs) (N := N_is_inputs) (ps := ["value"]) (p := 1) (m := b_is_inputs) (k := 1) (ow := ow_is_inputs) (Y.def_ 6) (Y.glo 36) S_is_inputs rfl rfl (by decide) (fun _ _ _ _ _ _ us hl => match us, hl with | [_], _ => rfl) (fun cdv A outer s H E T => (ss_one (s_ret (x_and (x_own1 T (c_is_integer Y) (by decide) rfl (xa_cons (x_var (pv 0) rfl) xa_nil)) (x_one (x_chain y_le y_le n_le n_le (w_of x_int) (w_of (x_var (pv 0) rfl)) (w_of x_int)))))))
theorem S_Row_init : FnScope N_Row_init ["self", "inputs", "deeds", "out"] sc_Row_init := ⟨rfl, rfl, rfl, by decide +kernel, rfl, by decide +kernel, by decide +kernel⟩
theorem c_Row (Y : Fs P w K mg) : MakeOk P w K mg base 6 "Row" 4 m_Row :=
  cls_ok (name := "__init__") (qual := "Row.__init__") (params := defArgs st_Row_init) (body := defBody st_Row_init) (scope := sc_Row_init) (f := He.ma K (ca K "Row") "__init__") (N := N_Row_init) (p := 4) (m := b_Row_init) (k := 5) (ow := ow_Row_init) (Y.def_ 7) (Y.glo 11) (Y.mkr 37 (x := "Row")) S_Row_init rfl rfl rfl (by decide) (by decide) (fun _ _ _ _ _ _ us hl => match us, hl with | [_, _, _, _], _ => rfl) (fun cdv A outer s H E T => (ss_cons (s_if (t_not (t_tst (w_of (x_own1 T (c_is_inputs Y) (by decide) rfl (xa_cons (x_var (pv 1) rfl) xa_nil))) (by intro _; rfl))) (ss_one (s_raise T (er_InvalidRow Y) (by decide) rfl (xa_cons (x_str (s := "inputs")) (xa_cons x_int xa_nil)))) ss_nil)
  (ss_cons (s_set (ps_set (i := 4) T.nd rfl (Or.inl rfl) (x_own1 T (c_as_tuple Y) (by decide) rfl (xa_cons (x_var (pv 2) rfl) xa_nil))) rfl)
  (ss_cons (s_if (t_isN (w_of (x_var (pv 4) rfl))) (ss_one (s_raise T (er_InvalidRow Y) (by decide) rfl (xa_cons (x_str (s := "deeds")) (xa_cons x_int xa_nil)))) ss_nil)
  (ss_cons (s_for T.po T.calm (i_enum rfl (Y.free 6) (x_var (pv 4) rfl)) (g_tup T.calm (gs_cons (g_nm (pg_name (i := 5) T.nd rfl (Or.inl rfl)) rfl) (gs_cons (g_nm (pg_name (i := 6) T.nd rfl (Or.inl rfl)) rfl) gs_nil))) (ss_one (s_if (t_not (t_tst (w_of (x_own1 T (c_is_deed Y) (by decide) rfl (xa_cons (x_var (pv 6) rfl) (xa_cons (x_bin y_add n_add (w_of (x_var (pv 1) rfl)) (w_of (x_var (pv 5) rfl))) xa_nil)))) (by intro _; rfl))) (ss_one (s_raise T (er_InvalidRow Y) (by decide) rfl (xa_cons (x_str (s := "deeds")) (xa_cons (x_var (pv 5) rfl) xa_nil)))) ss_nil)))
  (ss_cons (s_if (t_not (t_tst (w_of (x_own1 T (c_is_below Y) (by decide) rfl (xa_cons (x_var (pv 3) rfl) (xa_cons (x_bin y_add n_add (w_of (x_var (pv 1) rfl)) (w_of (x_b1 v_len n_len rfl (Y.free 1) hv_len (w_of (x_var (pv 4) rfl))))) xa_nil)))) (by intro _; rfl))) (ss_one (s_raise T (er_InvalidRow Y) (by decide) rfl (xa_cons (x_str (s := "out")) (xa_cons x_int xa_nil)))) ss_nil)
  (ss_cons (s_setF (att_ok (Y.more 1)) (ps_fld (pv 0) (x_var (pv 1) rfl) rfl) rfl)
  (ss_cons (s_setF (att_ok (Y.more 2)) (ps_fld (pv 0) (x_var (pv 4) rfl) rfl) rfl)
  (ss_one (s_setF (att_ok (Y.more 3)) (ps_fld (pv 0) (x_var (pv 3) rfl) rfl) rfl))))))))))
theorem S__law_alike : FnScope N__law_alike ["actual", "due"] sc__law_alike := ⟨rfl, rfl, rfl, by decide +kernel, rfl, by decide +kernel, by decide +kernel⟩
theorem c_law_alike (Y : Fs P w K mg) : ∀ k : Nat, CallOk P w K mg base (1 + k) "_law_alike" d__law_alike ["actual", "due"] 2 (m_law_alike k)
  | 0 => def_ok (d := d__law_alike) (N := N__law_alike) (ps := ["actual", "due"]) (p := 2) (m := dead) (k := 0) (ow := ow__law_alike) (Y.def_ 8) (Y.glo 38) S__law_alike rfl rfl (by decide) (fun _ _ _ _ _ _ us hl => match us, hl with | [_, _], _ => rfl) (fun cdv A outer s H E T => ss_dead)
  | k + 1 => def_ok (d := d__law_alike) (N := N__law_alike) (ps := ["actual", "due"]) (p := 2) (k := 1 + k) (ow := ow__law_alike) (Y.def_ 8) (Y.glo 38) S__law_alike rfl rfl (by decide) (fun _ _ _ _ _ _ us hl => match us, hl with | [_, _], _ => rfl) (fun cdv A outer s H E T => (ss_cons (s_if (t_tst (w_of (x_isiT (cs := CS) (ts := [.lst, .tup]) rfl (kit_of_b (Y.more 0)) rfl (Y.free 4) (w_of (x_var (pv 1) rfl)) (TyL.cons (t := .lst) (pe_bltn rfl (Y.free 2) hv_list rfl) (TyL.cons (t := .tup) (pe_bltn rfl (Y.free 3) hv_tuple rfl) TyL.nil rfl) rfl) (by decide))) (by intro _; rfl)) (ss_cons (s_if (PW.pt (t_or (t_not (t_tst (w_of (x_isiT (cs := CS) (ts := [.lst, .tup]) rfl (kit_of_b (Y.more 0)) rfl (Y.free 4) (w_of (x_var (pv 0) rfl)) (TyL.cons (t := .lst) (pe_bltn rfl (Y.free 2) hv_list rfl) (TyL.cons (t := .tup) (pe_bltn rfl (Y.free 3) hv_tuple rfl) TyL.nil rfl) rfl) (by decide))) (by intro _; rfl))) (t_or1 (t_cmp T.ne n_ne b_ne (w_of (x_isi1 (cs := CS) (t := .lst) rfl (kit_of_b (Y.more 0)) rfl (Y.free 4) (w_of (x_var (pv 0) rfl)) (pe_bltn rfl (Y.free 2) hv_list rfl))) (w_of (x_isi1 (cs := CS) (t := .lst) rfl (kit_of_b (Y.more 0)) rfl (Y.free 4) (w_of (x_var (pv 1) rfl)) (pe_bltn rfl (Y.free 2) hv_list rfl))) rfl)))) (ss_one (s_ret x_bl)) ss_nil)
  (ss_cons (s_if (t_cmp T.ne n_ne b_ne (w_of (x_b1 v_len n_len rfl (Y.free 1) hv_len (w_of (x_var (pv 0) rfl)))) (w_of (x_b1 v_len n_len rfl (Y.free 1) hv_len (w_of (x_var (pv 1) rfl)))) rfl) (ss_one (s_ret x_bl)) ss_nil)
  (ss_cons (s_for T.po T.calm (i_rng1 rfl (Y.free 0) (x_b1 v_len n_len rfl (Y.free 1) hv_len (w_of (x_var (pv 1) rfl)))) (g_nm (pg_name (i := 2) T.nd rfl (Or.inl rfl)) rfl) (ss_one (s_if (t_not (t_tst (w_of (x_own1 T (c_law_alike Y k) (Nat.le_refl _) rfl (xa_cons (x_idx (w_of (x_var (pv 0) rfl)) (w_of (x_var (pv 2) rfl))) (xa_cons (x_idx (w_of (x_var (pv 1) rfl)) (w_of (x_var (pv 2) rfl))) xa_nil)))) (by intro _; rfl))) (ss_one (s_ret x_bl)) ss_nil)))
  (ss_one (s_ret x_bl))))) ss_nil)
  (ss_cons (s_if (t_isN (w_of (x_var (pv 1) rfl))) (ss_one (s_ret (x_isN (w_of (x_var (pv 0) rfl))))) ss_nil)
  (ss_cons (s_if (t_tst (w_of (x_isi1 (cs := CS) (t := (.cls "Row")) rfl (kit_of_b (Y.more 0)) rfl (Y.free 4) (w_of (x_var (pv 1) rfl)) (pe_glob rfl (Y.glo 11) rfl))) (by intro _; rfl)) (ss_one (s_ret (x_and (x_isi1 (cs := CS) (t := (.cls "Row")) rfl (kit_of_b (Y.more 0)) rfl (Y.free 4) (w_of (x_var (pv 0) rfl)) (pe_glob rfl (Y.glo 11) rfl)) (x_and (x_cmp T.eq n_eq (w_of (x_attr (att_ok (Y.more 1)) (w_of (x_var (pv 0) rfl)))) (w_of (x_attr (att_ok (Y.more 1)) (w_of (x_var (pv 1) rfl)))) rfl) (x_and (x_cmp T.eq n_eq (w_of (x_attr (att_ok (Y.more 2)) (w_of (x_var (pv 0) rfl)))) (w_of (x_attr (att_ok (Y.more 2)) (w_of (x_var (pv 1) rfl)))) rfl) (x_one (x_cmp T.eq n_eq (w_of (x_attr (att_ok (Y.more 3)) (w_of (x_var (pv 0) rfl)))) (w_of (x_attr (att_ok (Y.more 3)) (w_of (x_var (pv 1) rfl)))) rfl))))))) ss_nil)
  (ss_cons (s_if (PW.pt (t_or (t_tst (w_of (x_isi1 (cs := CS) (t := .bl) rfl (kit_of_b (Y.more 0)) rfl (Y.free 4) (w_of (x_var (pv 1) rfl)) (pe_bltn rfl (Y.free 5) hv_bool rfl))) (by intro _; rfl)) (t_or1 (t_tst (w_of (x_isi1 (cs := CS) (t := .bl) rfl (kit_of_b (Y.more 0)) rfl (Y.free 4) (w_of (x_var (pv 0) rfl)) (pe_bltn rfl (Y.free 5) hv_bool rfl))) (by intro _; rfl))))) (ss_one (s_ret (x_and (x_isi1 (cs := CS) (t := .bl) rfl (kit_of_b (Y.more 0)) rfl (Y.free 4) (w_of (x_var (pv 1) rfl)) (pe_bltn rfl (Y.free 5) hv_bool rfl)) (x_and (x_isi1 (cs := CS) (t := .bl) rfl (kit_of_b (Y.more 0)) rfl (Y.free 4) (w_of (x_var (pv 0) rfl)) (pe_bltn rfl (Y.free 5) hv_bool rfl)) (x_one (x_cmp T.eq n_eq (w_of (x_var (pv 0) rfl)) (w_of (x_var (pv 1) rfl)) rfl)))))) ss_nil)
  (ss_cons (s_if (t_tst (w_of (x_isi1 (cs := CS) (t := .str) rfl (kit_of_b (Y.more 0)) rfl (Y.free 4) (w_of (x_var (pv 1) rfl)) (pe_bltn rfl (Y.free 8) hv_str rfl))) (by intro _; rfl)) (ss_one (s_ret (x_and (x_isi1 (cs := CS) (t := .str) rfl (kit_of_b (Y.more 0)) rfl (Y.free 4) (w_of (x_var (pv 0) rfl)) (pe_bltn rfl (Y.free 8) hv_str rfl)) (x_one (x_cmp T.eq n_eq (w_of (x_var (pv 0) rfl)) (w_of (x_var (pv 1) rfl)) rfl))))) ss_nil)
  (ss_one (s_ret (x_and (x_isi1 (cs := CS) (t := .int) rfl (kit_of_b (Y.more 0)) rfl (Y.free 4) (w_of (x_var (pv 0) rfl)) (pe_bltn rfl (Y.free 7) hv_int rfl)) (x_one (x_cmp T.eq n_eq (w_of (x_var (pv 0) rfl)) (w_of (x_var (pv 1) rfl)) rfl)))))))))))
theorem S__law_cell : FnScope N__law_cell ["script", "k"] sc__law_cell := ⟨rfl, rfl, rfl, by decide +kernel, rfl, by decide +kernel, by decide +kernel⟩
theorem c_law_cell (Y : Fs P w K mg) : CallOk P w K mg base 1 "_law_cell" d__law_cell ["script", "k"] 2 m_law_cell :=
  def_ok (d := d__law_cell) (N := N__law_cell) (ps := ["script", "k"]) (p := 2) (m := b__law_cell) (k := 0) (ow := ow__law_cell) (Y.def_ 9) (Y.glo 39) S__law_cell rfl rfl (by decide) (fun _ _ _ _ _ _ us hl => match us, hl with | [_, _], _ => rfl) (fun cdv A outer s H E T => (ss_cons (s_if (t_cmp y_lt n_lt b_lt (w_of (x_var (pv 1) rfl)) (w_of (x_b1 v_len n_len rfl (Y.free 1) hv_len (w_of (x_var (pv 0) rfl)))) rfl) (ss_one (s_ret (x_idx (w_of (x_var (pv 0) rfl)) (w_of (x_var (pv 1) rfl))))) ss_nil)
  (ss_cons (s_if (t_cmp y_gt n_gt b_gt (w_of (x_b1 v_len n_len rfl (Y.free 1) hv_len (w_of (x_var (pv 0) rfl)))) (w_of x_int) rfl) (ss_one (s_ret (x_bin y_add n_add (w_of (x_bin y_mod n_mod (w_of (x_t1 v_int n_int rfl (Y.free 7) hv_int (w_of (x_idx (w_of (x_var (pv 0) rfl)) (w_of (x_bin y_mod n_mod (w_of (x_var (pv 1) rfl)) (w_of (x_b1 v_len n_len rfl (Y.free 1) hv_len (w_of (x_var (pv 0) rfl)))))))))) (w_of x_int))) (w_of (x_bin y_mul n_mul (w_of x_int) (w_of (x_var (pv 1) rfl))))))) ss_nil)
  (ss_one (s_ret (x_bin y_add n_add (w_of (x_bin y_mul n_mul (w_of x_int) (w_of (x_var (pv 1) rfl)))) (w_of x_int)))))))
theorem S__law_deed : FnScope N__law_deed ["draws", "ready"] sc__law_deed := ⟨rfl, rfl, rfl, by decide +kernel, rfl, by decide +kernel, by decide +kernel⟩
theorem c_law_deed (Y : Fs P w K mg) : CallOk P w K mg base 1 "_law_deed" d__law_deed ["draws", "ready"] 2 m_law_deed :=
  def_ok (d := d__law_deed) (N := N__law_deed) (ps := ["draws", "ready"]) (p := 2) (m := b__law_deed) (k := 0) (ow := ow__law_deed) (Y.def_ 10) (Y.glo 40) S__law_deed rfl rfl (by decide) (fun _ _ _ _ _ _ us hl => match us, hl with | [_, _], _ => rfl) (fun cdv A outer s H E T => (ss_cons (s_set (ps_set (i := 2) T.nd rfl (Or.inl rfl) (e_of (f_lst (xa_cons (x_str (s := "zero")) (xa_cons (x_str (s := "ones")) (xa_cons (x_str (s := "not")) (xa_cons (x_str (s := "and")) (xa_cons (x_str (s := "or")) (xa_cons (x_str (s := "xor")) (xa_cons (x_str (s := "shift")) (xa_cons (x_str (s := "minus")) (xa_cons (x_str (s := "add")) (xa_cons (x_str (s := "sub")) xa_nil))))))))))))) rfl)
  (ss_cons (s_set (ps_set (i := 3) T.nd rfl (Or.inl rfl) (x_bin y_mod n_mod (w_of (x_idx (w_of (x_var (pv 0) rfl)) (w_of x_int))) (w_of (x_var (pv 1) rfl)))) rfl)
  (ss_cons (s_set (ps_set (i := 4) T.nd rfl (Or.inl rfl) (x_bin y_mod n_mod (w_of (x_idx (w_of (x_var (pv 0) rfl)) (w_of x_int))) (w_of (x_var (pv 1) rfl)))) rfl)
  (ss_cons (s_if (t_cmp y_ge n_ge b_ge (w_of (x_idx (w_of (x_var (pv 0) rfl)) (w_of x_int))) (w_of x_int) rfl) (ss_cons (s_set (ps_set (i := 5) T.nd rfl (Or.inl rfl) (x_idx (w_of (e_of (f_lst (xa_cons x_int (xa_cons x_int (xa_cons x_int xa_nil)))))) (w_of (x_idx (w_of (x_var (pv 0) rfl)) (w_of x_int))))) rfl)
  (ss_cons (s_set (ps_set (i := 6) T.nd rfl (Or.inl rfl) (x_tup (xa_cons (x_var (pv 3) rfl) (xa_cons (x_var (pv 4) rfl) (xa_cons (x_bin y_mod n_mod (w_of (x_idx (w_of (x_var (pv 0) rfl)) (w_of x_int))) (w_of (x_var (pv 1) rfl))) (xa_cons (x_var (pv 3) rfl) xa_nil)))))) rfl)
  (ss_one (s_ret (x_tup (xa_cons (x_str (s := "count")) (xa_cons (x_var (pv 5) rfl) (xa_cons (x_bin y_mod n_mod (w_of (x_idx (w_of (x_var (pv 0) rfl)) (w_of x_int))) (w_of (x_var (pv 5) rfl))) (xa_cons (x_slc (w_of (x_var (pv 6) rfl)) o_none (o_some (x_bin y_add n_add (w_of x_int) (w_of (x_idx (w_of (x_var (pv 0) rfl)) (w_of x_int)))))) xa_nil))))))))) ss_nil)
  (ss_cons (s_if (t_cmp y_lt n_lt b_lt (w_of (x_idx (w_of (x_var (pv 0) rfl)) (w_of x_int))) (w_of x_int) rfl) (ss_one (s_ret (x_tup (xa_cons (x_idx (w_of (x_var (pv 2) rfl)) (w_of (x_idx (w_of (x_var (pv 0) rfl)) (w_of x_int)))) xa_nil)))) ss_nil)
  (ss_cons (s_if (t_cmp y_in n_in b_in (w_of (x_idx (w_of (x_var (pv 0) rfl)) (w_of x_int))) (w_of (e_of (f_lst (xa_cons x_int (xa_cons x_int (xa_cons x_int xa_nil)))))) rfl) (ss_one (s_ret (x_tup (xa_cons (x_idx (w_of (x_var (pv 2) rfl)) (w_of (x_idx (w_of (x_var (pv 0) rfl)) (w_of x_int)))) (xa_cons (x_var (pv 3) rfl) xa_nil))))) ss_nil)
  (ss_one (s_ret (x_tup (xa_cons (x_idx (w_of (x_var (pv 2) rfl)) (w_of (x_idx (w_of (x_var (pv 0) rfl)) (w_of x_int)))) (xa_cons (x_var (pv 3) rfl) (xa_cons (x_var (pv 4) rfl) xa_nil)))))))))))))
theorem S__law_mixed : FnScope N__law_mixed ["cell", "k"] sc__law_mixed := ⟨rfl, rfl, rfl, by decide +kernel, rfl, by decide +kernel, by decide +kernel⟩
theorem c_law_mixed (Y : Fs P w K mg) : CallOk P w K mg base 1 "_law_mixed" d__law_mixed ["cell", "k"] 2 m_law_mixed :=
  def_ok (d := d__law_mixed) (N := N__law_mixed) (ps := ["cell", "k"]) (p := 2) (m := b__law_mixed) (k := 0) (ow := ow__law_mixed) (Y.def_ 11) (Y.glo 41) S__law_mixed rfl rfl (by decide) (fun _ _ _ _ _ _ us hl => match us, hl with | [_, _], _ => rfl) (fun cdv A outer s H E T => (ss_cons (s_set (ps_set (i := 2) T.nd rfl (Or.inl rfl) (x_bin y_mod n_mod (w_of (x_t1 v_int n_int rfl (Y.free 7) hv_int (w_of (x_bin y_add n_add (w_of (x_bin y_add n_add (w_of (x_bin y_mul n_mul (w_of (x_var (pv 0) rfl)) (w_of x_int))) (w_of (x_bin y_mul n_mul (w_of (x_var (pv 1) rfl)) (w_of x_int))))) (w_of x_int))))) (w_of x_int))) rfl)
  (ss_cons (s_set (ps_set (i := 3) T.nd rfl (Or.inl rfl) (x_bin y_mod n_mod (w_of (x_t1 v_int n_int rfl (Y.free 7) hv_int (w_of (x_bin y_add n_add (w_of (x_bin y_mul n_mul (w_of (x_var (pv 2) rfl)) (w_of (x_var (pv 2) rfl)))) (w_of x_int))))) (w_of x_int))) rfl)
  (ss_one (s_ret (x_bin y_fdiv n_fdiv (w_of (x_bin y_mod n_mod (w_of (x_t1 v_int n_int rfl (Y.free 7) hv_int (w_of (x_bin y_mul n_mul (w_of (x_var (pv 3) rfl)) (w_of (x_bin y_add n_add (w_of (x_bin y_mod n_mod (w_of (x_var (pv 3) rfl)) (w_of x_int))) (w_of x_int))))))) (w_of x_int))) (w_of x_int)))))))
theorem S__law_draws : FnScope N__law_draws ["cell", "sizes"] sc__law_draws := ⟨rfl, rfl, rfl, by decide +kernel, rfl, by decide +kernel, by decide +kernel⟩
theorem c_law_draws (Y : Fs P w K mg) : CallOk P w K mg base 2 "_law_draws" d__law_draws ["cell", "sizes"] 2 m_law_draws :=
  def_ok (d := d__law_draws) (N := N__law_draws) (ps := ["cell", "sizes"]) (p := 2) (m := b__law_draws) (k := 1) (ow := ow__law_draws) (oN := owS []) (oB := owS []) (Y.def_ 12) (Y.glo 42) S__law_draws rfl rfl (by decide) (fun _ _ _ _ _ _ us hl => match us, hl with | [_, _], _ => rfl) (fun cdv A outer s H E T => (c_cons (o1 := owS [2]) (c_own (ps_set (i := 2) T.nd rfl (Or.inl rfl) (f_lst xa_nil)) rfl (owS_add (by decide)))
  (c_cons (o1 := owS [2]) (s_up (s_set (ps_set (i := 3) T.nd rfl (Or.inl rfl) (x_var (pv 0) rfl)) rfl) (owS_le (by decide)) (by decide))
  (c_cons (o1 := owS [2]) (s_up (s_for T.po T.calm (i_rng1 rfl (Y.free 0) (x_b1 v_len n_len rfl (Y.free 1) hv_len (w_of (x_var (pv 1) rfl)))) (g_nm (pg_name (i := 4) T.nd rfl (Or.inl rfl)) rfl) (c_one (c_if (PW.pt (t_and (t_cmp y_ge n_ge b_ge (w_of (x_var (pv 0) rfl)) (w_of (x_bin y_pow n_pow (w_of x_int) (w_of x_int))) rfl) (t_and (t_cmp y_lt n_lt b_lt (w_of (x_var (pv 4) rfl)) (w_of x_int) rfl) (t_and1 (t_cmp y_gt n_gt b_gt (w_of (x_var (pv 3) rfl)) (w_of x_int) rfl))))) (c_cons (o1 := owS [2]) (s_up (s_app1 (i := 2) (pv 2) (x_bin y_mod n_mod (w_of (x_t1 v_int n_int rfl (Y.free 7) hv_int (w_of (x_var (pv 3) rfl)))) (w_of (x_idx (w_of (x_var (pv 1) rfl)) (w_of (x_var (pv 4) rfl))))) rfl) (owS_le (by decide)) (by decide))
  (c_one (s_up (s_set (ps_set (i := 3) T.nd rfl (Or.inl rfl) (x_bin y_fdiv n_fdiv (w_of (x_var (pv 3) rfl)) (w_of (x_idx (w_of (x_var (pv 1) rfl)) (w_of (x_var (pv 4) rfl)))))) rfl) (owS_le (by decide)) (by decide)))) (c_one (s_up (s_app1 (i := 2) (pv 2) (x_bin y_mod n_mod (w_of (x_own1 T (c_law_mixed Y) (by decide) rfl (xa_cons (x_var (pv 0) rfl) (xa_cons (x_var (pv 4) rfl) xa_nil)))) (w_of (x_idx (w_of (x_var (pv 1) rfl)) (w_of (x_var (pv 4) rfl))))) rfl) (owS_le (by decide)) (by decide)))))) (owS_le (by decide)) (by decide))
  (c_cut (o1 := owS []) (c_one (s_up (s_ret (x_var (pv 2) rfl)) (owS_le (by decide)) (by decide))) (owS_le (by decide)) (by decide))))))
theorem S__law_in_range : FnScope N__law_in_range ["thing", "low", "high"] sc__law_in_range := ⟨rfl, rfl, rfl, by decide +kernel, rfl, by decide +kernel, by decide +kernel⟩
theorem c_law_in_range (Y : Fs P w K mg) : CallOk P w K mg base 1 "_law_in_range" d__law_in_range ["thing", "low", "high"] 3 m_law_in_range :=
  def_ok (d := d__law_in_range) (N := N__law_in_range) (ps := ["thing", "low", "high"]) (p := 3) (m := b__law_in_range) (k := 0) (ow := ow__law_in_range) (Y.def_ 13) (Y.glo 43) S__law_in_range rfl rfl (by decide) (fun _ _ _ _ _ _ us hl => match us, hl with | [_, _, _], _ => rfl) (fun cdv A outer s H E T => (ss_one (s_ret (x_and (x_isi1 (cs := CS) (t := .int) rfl (kit_of_b (Y.more 0)) rfl (Y.free 4) (w_of (x_var (pv 0) rfl)) (pe_bltn rfl (Y.free 7) hv_int rfl)) (x_and (x_not (x_isi1 (cs := CS) (t := .bl) rfl (kit_of_b (Y.more 0)) rfl (Y.free 4) (w_of (x_var (pv 0) rfl)) (pe_bltn rfl (Y.free 5) hv_bool rfl))) (x_one (x_chain y_le y_le n_le n_le (w_of (x_var (pv 1) rfl)) (w_of (x_var (pv 0) rfl)) (w_of (x_var (pv 2) rfl)))))))))
theorem S__law_judged : FnScope N__law_judged ["tops", "thing"] sc__law_judged := ⟨rfl, rfl, rfl, by decide +kernel, rfl, by decide +kernel, by decide +kernel⟩
theorem c_law_judged (Y : Fs P w K mg) : CallOk P w K mg base 2 "_law_judged" d__law_judged ["tops", "thing"] 2 m_law_judged :=
  def_ok (d := d__law_judged) (N := N__law_judged) (ps := ["tops", "thing"]) (p := 2) (m := b__law_judged) (k := 1) (ow := ow__law_judged) (Y.def_ 14) (Y.glo 44) S__law_judged rfl rfl (by decide) (fun _ _ _ _ _ _ us hl => match us, hl with | [_, _], _ => rfl) (fun cdv A outer s H E T => (ss_cons (s_if (PW.pt (t_or (t_not (t_tst (w_of (x_isi1 (cs := CS) (t := .tup) rfl (kit_of_b (Y.more 0)) rfl (Y.free 4) (w_of (x_var (pv 1) rfl)) (pe_bltn rfl (Y.free 3) hv_tuple rfl))) (by intro _; rfl))) (t_or1 (t_cmp T.ne n_ne b_ne (w_of (x_b1 v_len n_len rfl (Y.free 1) hv_len (w_of (x_var (pv 1) rfl)))) (w_of (x_b1 v_len n_len rfl (Y.free 1) hv_len (w_of (x_var (pv 0) rfl)))) rfl)))) (ss_one (s_ret x_bl)) ss_nil)
  (ss_cons (s_for T.po T.calm (i_rng1 rfl (Y.free 0) (x_b1 v_len n_len rfl (Y.free 1) hv_len (w_of (x_var (pv 0) rfl)))) (g_nm (pg_name (i := 2) T.nd rfl (Or.inl rfl)) rfl) (ss_one (s_if (t_not (t_tst (w_of (x_own1 T (c_law_in_range Y) (by decide) rfl (xa_cons (x_idx (w_of (x_var (pv 1) rfl)) (w_of (x_var (pv 2) rfl))) (xa_cons x_int (xa_cons (x_bin y_sub n_sub (w_of (x_idx (w_of (x_var (pv 0) rfl)) (w_of (x_var (pv 2) rfl)))) (w_of x_int)) xa_nil))))) (by intro _; rfl))) (ss_one (s_ret x_bl)) ss_nil)))
  (ss_one (s_ret x_bl)))))
theorem S__law_other : FnScope N__law_other ["right", "tops", "draws"] sc__law_other := ⟨rfl, rfl, rfl, by decide +kernel, rfl, by decide +kernel, by decide +kernel⟩
theorem c_law_other (Y : Fs P w K mg) : CallOk P w K mg base 8 "_law_other" d__law_other ["right", "tops", "draws"] 3 m_law_other :=
  def_ok (d := d__law_other) (N := N__law_other) (ps := ["right", "tops", "draws"]) (p := 3) (m := b__law_other) (k := 7) (ow := ow__law_other) (Y.def_ 15) (Y.glo 45) S__law_other rfl rfl (by decide) (fun _ _ _ _ _ _ us hl => match us, hl with | [_, _, _], _ => rfl) (fun cdv A outer s H E T => (ss_cons (s_if (t_cmp T.eq n_eq b_eq (w_of (x_idx (w_of (x_var (pv 2) rfl)) (w_of x_int))) (w_of x_int) rfl) (ss_cons (s_set (ps_set (i := 3) T.nd rfl (Or.inl rfl) (e_of (f_lst (xa_cons (e_of (f_list rfl rfl (Y.free 2) (w_of (x_var (pv 0) rfl)))) (xa_cons (x_bin y_add n_add (w_of (x_var (pv 0) rfl)) (w_of (x_tup (xa_cons x_int xa_nil)))) (xa_cons (x_slc (w_of (x_var (pv 0) rfl)) o_none (o_some (x_un y_neg n_neg (w_of x_int)))) (xa_cons x_non (xa_cons x_int (xa_cons (x_str (s := "0")) (xa_cons x_bl (xa_cons (x_tup (xa_cons (x_var (pv 0) rfl) xa_nil)) (xa_cons (x_tup xa_nil) (xa_cons (e_of (f_lst xa_nil)) (xa_cons (x_new (cls := "Row") T (fun _ _ _ _ _ h => h) (c_Row Y) (by decide) rfl (xa_cons x_int (xa_cons (e_of (f_lst xa_nil)) (xa_cons x_int xa_nil)))) (xa_cons (x_tup (xa_cons (e_of (f_lst (xa_cons x_int xa_nil))) xa_nil)) (xa_cons (e_of (f_lst (xa_cons (e_of (f_lst xa_nil)) xa_nil))) xa_nil)))))))))))))))) rfl)
  (ss_one (s_ret (x_idx (w_of (x_bin y_add n_add (w_of (x_var (pv 3) rfl)) (w_of (e_of (f_lst (xa_cons (x_tup (xa_cons x_int (xa_cons x_non xa_nil))) (xa_cons (x_tup (xa_cons x_int (xa_cons (x_tup (xa_cons (e_of (f_lst xa_nil)) xa_nil)) xa_nil))) (xa_cons (x_bin y_add n_add (w_of (x_var (pv 0) rfl)) (w_of (x_tup (xa_cons (e_of (f_lst xa_nil)) xa_nil)))) (xa_cons (x_tup (xa_cons (x_new (cls := "Row") T (fun _ _ _ _ _ h => h) (c_Row Y) (by decide) rfl (xa_cons x_int (xa_cons (e_of (f_lst xa_nil)) (xa_cons x_int xa_nil)))) xa_nil)) xa_nil))))))))) (w_of (x_idx (w_of (x_var (pv 2) rfl)) (w_of x_int))))))) ss_nil)
  (ss_cons (s_if (PW.pt (t_or (t_cmp T.eq n_eq b_eq (w_of (x_idx (w_of (x_var (pv 2) rfl)) (w_of x_int))) (w_of x_int) rfl) (t_or1 (t_cmp T.eq n_eq b_eq (w_of (x_b1 v_len n_len rfl (Y.free 1) hv_len (w_of (x_var (pv 0) rfl)))) (w_of x_int) rfl)))) (ss_one (s_ret (x_var (pv 0) rfl))) ss_nil)
  (ss_cons (s_set (ps_set (i := 4) T.nd rfl (Or.inl rfl) (x_bin y_mod n_mod (w_of (x_idx (w_of (x_var (pv 2) rfl)) (w_of x_int))) (w_of (x_b1 v_len n_len rfl (Y.free 1) hv_len (w_of (x_var (pv 0) rfl)))))) rfl)
  (ss_cons (s_set (ps_set (i := 5) T.nd rfl (Or.inl rfl) (x_idx (w_of (e_of (f_lst (xa_cons (x_un y_neg n_neg (w_of x_int)) (xa_cons x_int (xa_cons x_int (xa_cons (x_idx (w_of (x_var (pv 1) rfl)) (w_of (x_var (pv 4) rfl))) (xa_cons (x_bin y_add n_add (w_of (x_idx (w_of (x_var (pv 1) rfl)) (w_of (x_var (pv 4) rfl)))) (w_of (x_idx (w_of (x_var (pv 2) rfl)) (w_of x_int)))) (xa_cons x_bl (xa_cons x_bl (xa_cons x_non (xa_cons (x_str (s := "0")) (xa_cons (x_tup (xa_cons x_int xa_nil)) (xa_cons (x_bin y_sub n_sub (w_of (x_idx (w_of (x_var (pv 1) rfl)) (w_of (x_var (pv 4) rfl)))) (w_of x_int)) (xa_cons x_int (xa_cons (e_of (f_lst (xa_cons x_int xa_nil))) (xa_cons (x_new (cls := "Row") T (fun _ _ _ _ _ h => h) (c_Row Y) (by decide) rfl (xa_cons x_int (xa_cons (e_of (f_lst xa_nil)) (xa_cons x_int xa_nil)))) (xa_cons (x_tup (xa_cons (e_of (f_lst xa_nil)) xa_nil)) (xa_cons (e_of (f_lst (xa_cons (e_of (f_lst xa_nil)) xa_nil))) (xa_cons (e_of (f_lst (xa_cons (x_idx (w_of (x_var (pv 0) rfl)) (w_of (x_var (pv 4) rfl))) xa_nil))) (xa_cons (x_tup (xa_cons x_non xa_nil)) xa_nil))))))))))))))))))))) (w_of (x_idx (w_of (x_var (pv 2) rfl)) (w_of x_int))))) rfl)
  (ss_one (s_ret (x_bin y_add n_add (w_of (x_bin y_add n_add (w_of (x_slc (w_of (x_var (pv 0) rfl)) o_none (o_some (x_var (pv 4) rfl)))) (w_of (x_tup (xa_cons (x_var (pv 5) rfl) xa_nil))))) (w_of (x_slc (w_of (x_var (pv 0) rfl)) (o_some (x_bin y_add n_add (w_of (x_var (pv 4) rfl)) (w_of x_int))) o_none))))))))))
theorem S_mark_deeds : FnScope N_mark_deeds ["row"] sc_mark_deeds := ⟨rfl, rfl, rfl, by decide +kernel, rfl, by decide +kernel, by decide +kernel⟩
theorem c_mark_deeds (Y : Fs P w K mg) : CallOk P w K mg base 1 "mark_deeds" d_mark_deeds ["row"] 1 m_mark_deeds :=
  def_ok (d := d_mark_deeds) (N := N_mark_deeds) (ps := ["row"]) (p := 1) (m := b_mark_deeds) (k := 0) (ow := ow_mark_deeds) (Y.def_ 16) (Y.glo 46) S_mark_deeds rfl rfl (by decide) (fun _ _ _ _ _ _ us hl => match us, hl with | [_], _ => rfl) (fun cdv A outer s H E T => (ss_one (s_ret (e_of (f_lc (own := [("deed", 1)]) T (i_gr (i_seq (x_attr (att_ok (Y.more 2)) (w_of (x_var (pv 0) rfl))))) (blkOk_by (N := N_mark_deeds) (sc := sc_mark_deeds) (own := [("deed", 1)]) (by decide +kernel)) (fun _ _ _ _ _ T1 => (g_nm (pg_name (i := 1) T1.nd rfl (Or.inl rfl)) rfl)) (fun _ _ _ _ _ T1 => (ts_one (t_cmp y_in n_in b_in (w_of (x_idx (w_of (x_var (pv 1) rfl)) (w_of x_int))) (w_of (x_gtup (y := "MARKED") (ds := tup_MARKED) rfl rfl (Y.glo 27) (Y.more 6) rfl)) rfl))) (fun _ _ _ _ _ T1 => (x_var (pv 1) rfl)) (by decide))))))
theorem S_first_marks : FnScope N_first_marks ["row"] sc_first_marks := ⟨rfl, rfl, rfl, by decide +kernel, rfl, by decide +kernel, by decide +kernel⟩
theorem c_first_marks (Y : Fs P w K mg) : CallOk P w K mg base 2 "first_marks" d_first_marks ["row"] 1 m_first_marks :=
  def_ok (d := d_first_marks) (N := N_first_marks) (ps := ["row"]) (p := 1) (m := b_first_marks) (k := 1) (ow := ow_first_marks) (Y.def_ 17) (Y.glo 47) S_first_marks rfl rfl (by decide) (fun _ _ _ _ _ _ us hl => match us, hl with | [_], _ => rfl) (fun cdv A outer s H E T => (ss_one (s_ret (x_t1 v_tuple n_tuple rfl (Y.free 3) hv_tuple (w_of (e_of (f_lc (own := [("_", 1)]) T (i_gr (i_seq (x_own1 T (c_mark_deeds Y) (by decide) rfl (xa_cons (x_var (pv 0) rfl) xa_nil)))) (blkOk_by (N := N_first_marks) (sc := sc_first_marks) (own := [("_", 1)]) (by decide +kernel)) (fun _ _ _ _ _ T1 => (g_nm (pg_name (i := 1) T1.nd rfl (Or.inl rfl)) rfl)) (fun _ _ _ _ _ T1 => ts_nil) (fun _ _ _ _ _ T1 => x_int) (by decide))))))))
theorem S_is_reading : FnScope N_is_reading ["value", "inputs"] sc_is_reading := ⟨rfl, rfl, rfl, by decide +kernel, rfl, by decide +kernel, by decide +kernel⟩
theorem c_is_reading (Y : Fs P w K mg) : CallOk P w K mg base 3 "is_reading" d_is_reading ["value", "inputs"] 2 m_is_reading :=
  def_ok (d := d_is_reading) (N := N_is_reading) (ps := ["value", "inputs"]) (p := 2) (m := b_is_reading) (k := 2) (ow := ow_is_reading) (Y.def_ 18) (Y.glo 48) S_is_reading rfl rfl (by decide) (fun _ _ _ _ _ _ us hl => match us, hl with | [_, _], _ => rfl) (fun cdv A outer s H E T => (ss_cons (s_if (t_not (t_tst (w_of (x_isi1 (cs := CS) (t := .tup) rfl (kit_of_b (Y.more 0)) rfl (Y.free 4) (w_of (x_var (pv 0) rfl)) (pe_bltn rfl (Y.free 3) hv_tuple rfl))) (by intro _; rfl))) (ss_one (s_ret x_bl)) ss_nil)
  (ss_one (s_ret (x_b1 (v_all T.calm) n_all rfl (Y.free 10) hv_all (w_of (e_of (f_lc (own := [("letter", 2)]) T (i_gr (i_seq (x_var (pv 0) rfl))) (blkOk_by (N := N_is_reading) (sc := sc_is_reading) (own := [("letter", 2)]) (by decide +kernel)) (fun _ _ _ _ _ T1 => (g_nm (pg_name (i := 2) T1.nd rfl (Or.inl rfl)) rfl)) (fun _ _ _ _ _ T1 => ts_nil) (fun _ _ _ _ _ T1 => (x_own1 T1 (c_is_below Y) (by decide) rfl (xa_cons (x_var (pv 2) rfl) (xa_cons (x_bin y_shl n_shl (w_of x_int) (w_of (x_var (pv 1) rfl))) xa_nil)))) (by decide)))))))))
theorem S_spread_mark : FnScope N_spread_mark ["many", "place", "mark", "block", "size"] sc_spread_mark := ⟨rfl, rfl, rfl, by decide +kernel, rfl, by decide +kernel, by decide +kernel⟩
theorem c_spread_mark (Y : Fs P w K mg) : CallOk P w K mg base 1 "spread_mark" d_spread_mark ["many", "place", "mark", "block", "size"] 5 m_spread_mark :=
  def_ok (d := d_spread_mark) (N := N_spread_mark) (ps := ["many", "place", "mark", "block", "size"]) (p := 5) (m := b_spread_mark) (k := 0) (ow := ow_spread_mark) (Y.def_ 19) (Y.glo 49) S_spread_mark rfl rfl (by decide) (fun _ _ _ _ _ _ us hl => match us, hl with | [_, _, _, _, _], _ => rfl) (fun cdv A outer s H E T => (ss_cons (s_set (ps_set (i := 5) T.nd rfl (Or.inl rfl) x_int) rfl)
  (ss_cons (s_for T.po T.calm (i_enum rfl (Y.free 6) (x_var (pv 0) rfl)) (g_tup T.calm (gs_cons (g_nm (pg_name (i := 6) T.nd rfl (Or.inl rfl)) rfl) (gs_cons (g_nm (pg_name (i := 7) T.nd rfl (Or.inl rfl)) rfl) gs_nil))) (ss_one (s_if (t_cmp T.eq n_eq b_eq (w_of (x_idx (w_of (x_var (pv 7) rfl)) (w_of (x_var (pv 1) rfl)))) (w_of (x_var (pv 2) rfl)) rfl) (ss_one (s_aug (ps_aug (i := 5) T.nd rfl (Or.inl rfl) (w_of (x_bin y_shl n_shl (w_of (x_var (pv 3) rfl)) (w_of (x_bin y_mul n_mul (w_of (x_var (pv 6) rfl)) (w_of (x_var (pv 4) rfl)))))) ip_or) rfl h_ior n_ior rfl)) ss_nil)))
  (ss_one (s_ret (x_var (pv 5) rfl))))))
theorem S_held_lanes : FnScope N_held_lanes ["row", "many", "block", "size"] sc_held_lanes := ⟨rfl, rfl, rfl, by decide +kernel, rfl, by decide +kernel, by decide +kernel⟩
theorem c_held_lanes (Y : Fs P w K mg) : CallOk P w K mg base 2 "held_lanes" d_held_lanes ["row", "many", "block", "size"] 4 m_held_lanes :=
  def_ok (d := d_held_lanes) (N := N_held_lanes) (ps := ["row", "many", "block", "size"]) (p := 4) (m := b_held_lanes) (k := 1) (ow := ow_held_lanes) (oN := owS []) (oB := owS []) (Y.def_ 20) (Y.glo 50) S_held_lanes rfl rfl (by decide) (fun _ _ _ _ _ _ us hl => match us, hl with | [_, _, _, _], _ => rfl) (fun cdv A outer s H E T => (c_cons (o1 := owS [4]) (c_own (ps_set (i := 4) T.nd rfl (Or.inl rfl) (f_lst xa_nil)) rfl (owS_add (by decide)))
  (c_cons (o1 := owS [4]) (s_up (s_for T.po T.calm (i_enum rfl (Y.free 6) (x_own1 T (c_mark_deeds Y) (by decide) rfl (xa_cons (x_var (pv 0) rfl) xa_nil))) (g_tup T.calm (gs_cons (g_nm (pg_name (i := 5) T.nd rfl (Or.inr rfl)) rfl) (gs_cons (g_nm (pg_name (i := 6) T.nd rfl (Or.inl rfl)) rfl) gs_nil))) (c_one (c_if (t_cmp T.eq n_eq b_eq (w_of (x_idx (w_of (x_var (pv 6) rfl)) (w_of x_int))) (w_of (x_str (s := "count"))) rfl) (c_one (s_up (s_app1 (i := 4) (pv 4) (e_of (f_lc (own := [("rest", 7)]) T (i_gr (i_rng1 rfl (Y.free 0) (x_idx (w_of (x_var (pv 6) rfl)) (w_of x_int)))) (blkOk_by (N := N_held_lanes) (sc := sc_held_lanes) (own := [("rest", 7)]) (by decide +kernel)) (fun _ _ _ _ _ T1 => (g_nm (pg_name (i := 7) T1.nd rfl (Or.inl rfl)) rfl)) (fun _ _ _ _ _ T1 => ts_nil) (fun _ _ _ _ _ T1 => (x_own1 T1 (c_spread_mark Y) (by decide) rfl (xa_cons (x_var (pv 1) rfl) (xa_cons (x_var (pv 5) rfl) (xa_cons (x_var (pv 7) rfl) (xa_cons (x_var (pv 2) rfl) (xa_cons (x_var (pv 3) rfl) xa_nil))))))) (by decide))) rfl) (owS_le (by decide)) (by decide))) (c_one (s_up (s_app1 (i := 4) (pv 4) (x_own1 T (c_spread_mark Y) (by decide) rfl (xa_cons (x_var (pv 1) rfl) (xa_cons (x_var (pv 5) rfl) (xa_cons x_int (xa_cons (x_var (pv 2) rfl) (xa_cons (x_var (pv 3) rfl) xa_nil)))))) rfl) (owS_le (by decide)) (by decide)))))) (owS_le (by decide)) (by decide))
  (c_cut (o1 := owS []) (c_one (s_up (s_ret (x_var (pv 4) rfl)) (owS_le (by decide)) (by decide))) (owS_le (by decide)) (by decide)))))
theorem S_mark_column : FnScope N_mark_column ["mark", "size"] sc_mark_column := ⟨rfl, rfl, rfl, by decide +kernel, rfl, by decide +kernel, by decide +kernel⟩
theorem c_mark_column (Y : Fs P w K mg) : CallOk P w K mg base 1 "mark_column" d_mark_column ["mark", "size"] 2 m_mark_column :=
  def_ok (d := d_mark_column) (N := N_mark_column) (ps := ["mark", "size"]) (p := 2) (m := b_mark_column) (k := 0) (ow := ow_mark_column) (Y.def_ 21) (Y.glo 51) S_mark_column rfl rfl (by decide) (fun _ _ _ _ _ _ us hl => match us, hl with | [_, _], _ => rfl) (fun cdv A outer s H E T => (ss_cons (s_if (t_tst (w_of (x_isi1 (cs := CS) (t := .int) rfl (kit_of_b (Y.more 0)) rfl (Y.free 4) (w_of (x_var (pv 0) rfl)) (pe_bltn rfl (Y.free 7) hv_int rfl))) (by intro _; rfl)) (ss_one (s_ret (e_of (f_lc (own := [("at", 2)]) T (i_gr (i_rng1 rfl (Y.free 0) (x_var (pv 1) rfl))) (blkOk_by (N := N_mark_column) (sc := sc_mark_column) (own := [("at", 2)]) (by decide +kernel)) (fun _ _ _ _ _ T1 => (g_nm (pg_name (i := 2) T1.nd rfl (Or.inl rfl)) rfl)) (fun _ _ _ _ _ T1 => ts_nil) (fun _ _ _ _ _ T1 => (x_bin y_and n_and (w_of (x_bin y_shr n_shr (w_of (x_var (pv 0) rfl)) (w_of (x_var (pv 2) rfl)))) (w_of x_int))) (by decide))))) ss_nil)
  (ss_one (s_ret (e_of (f_lc (own := [("at", 2)]) T (i_gr (i_rng1 rfl (Y.free 0) (x_var (pv 1) rfl))) (blkOk_by (N := N_mark_column) (sc := sc_mark_column) (own := [("at", 2)]) (by decide +kernel)) (fun _ _ _ _ _ T2 => (g_nm (pg_name (i := 2) T2.nd rfl (Or.inr rfl)) rfl)) (fun _ _ _ _ _ T2 => ts_nil) (fun _ _ _ _ _ T2 => (x_b1 (v_sum T2.calm) n_sum rfl (Y.free 28) hv_sum (w_of (e_of (f_lc (own := [("rest", 3)]) T2 (i_gr (i_rng2 rfl (Y.free 0) x_int (x_b1 v_len n_len rfl (Y.free 1) hv_len (w_of (x_var (pv 0) rfl))))) (blkOk_by (N := N_mark_column) (own := [("rest", 3)]) (by kernel_rfl)) (fun _ _ _ _ _ T3 => (g_nm (pg_name (i := 3) T3.nd rfl (Or.inl rfl)) rfl)) (fun _ _ _ _ _ T3 => ts_nil) (fun _ _ _ _ _ T3 => (x_bin y_mul n_mul (w_of (x_var (pv 3) rfl)) (w_of (x_bin y_and n_and (w_of (x_bin y_shr n_shr (w_of (x_idx (w_of (x_var (pv 0) rfl)) (w_of (x_var (pv 3) rfl)))) (w_of (x_var (pv 2) rfl)))) (w_of x_int))))) (by decide)))))) (by decide)))))))
theorem S_carry_step : FnScope N_carry_step ["name", "one", "other", "mark"] sc_carry_step := ⟨rfl, rfl, rfl, by decide +kernel, rfl, by decide +kernel, by decide +kernel⟩
theorem c_carry_step (Y : Fs P w K mg) : CallOk P w K mg base 1 "carry_step" d_carry_step ["name", "one", "other", "mark"] 4 m_carry_step :=
  def_ok (d := d_carry_step) (N := N_carry_step) (ps := ["name", "one", "other", "mark"]) (p := 4) (m := b_carry_step) (k := 0) (ow := ow_carry_step) (Y.def_ 22) (Y.glo 52) S_carry_step rfl rfl (by decide) (fun _ _ _ _ _ _ us hl => match us, hl with | [_, _, _, _], _ => rfl) (fun cdv A outer s H E T => (ss_cons (s_if (t_cmp T.eq n_eq b_eq (w_of (x_var (pv 0) rfl)) (w_of (x_str (s := "shift"))) rfl) (ss_one (s_ret (x_tup (xa_cons (x_var (pv 3) rfl) (xa_cons (x_var (pv 1) rfl) xa_nil))))) ss_nil)
  (ss_cons (s_if (t_cmp T.eq n_eq b_eq (w_of (x_var (pv 0) rfl)) (w_of (x_str (s := "minus"))) rfl) (ss_one (s_ret (x_tup (xa_cons (x_bin y_xor n_xor (w_of (x_var (pv 1) rfl)) (w_of (x_var (pv 3) rfl))) (xa_cons (x_bin y_or n_or (w_of (x_var (pv 1) rfl)) (w_of (x_var (pv 3) rfl))) xa_nil))))) ss_nil)
  (ss_cons (s_if (t_cmp T.eq n_eq b_eq (w_of (x_var (pv 0) rfl)) (w_of (x_str (s := "add"))) rfl) (ss_one (s_ret (x_tup (xa_cons (x_bin y_xor n_xor (w_of (x_bin y_xor n_xor (w_of (x_var (pv 1) rfl)) (w_of (x_var (pv 2) rfl)))) (w_of (x_var (pv 3) rfl))) (xa_cons (x_bin y_or n_or (w_of (x_bin y_and n_and (w_of (x_var (pv 1) rfl)) (w_of (x_var (pv 2) rfl)))) (w_of (x_bin y_and n_and (w_of (x_bin y_or n_or (w_of (x_var (pv 1) rfl)) (w_of (x_var (pv 2) rfl)))) (w_of (x_var (pv 3) rfl))))) xa_nil))))) ss_nil)
  (ss_one (s_ret (x_tup (xa_cons (x_bin y_xor n_xor (w_of (x_bin y_xor n_xor (w_of (x_var (pv 1) rfl)) (w_of (x_var (pv 2) rfl)))) (w_of (x_var (pv 3) rfl))) (xa_cons (x_bin y_or n_or (w_of (x_bin y_and n_and (w_of (x_bin y_or n_or (w_of (x_var (pv 2) rfl)) (w_of (x_var (pv 3) rfl)))) (w_of (x_un y_inv n_inv (w_of (x_var (pv 1) rfl)))))) (w_of (x_bin y_and n_and (w_of (x_var (pv 2) rfl)) (w_of (x_var (pv 3) rfl))))) xa_nil)))))))))
theorem S_turned_counts : FnScope N_turned_counts ["held", "parts"] sc_turned_counts := ⟨rfl, rfl, rfl, by decide +kernel, rfl, by decide +kernel, by decide +kernel⟩
theorem c_turned_counts (Y : Fs P w K mg) : CallOk P w K mg base 1 "turned_counts" d_turned_counts ["held", "parts"] 2 m_turned_counts :=
  def_ok (d := d_turned_counts) (N := N_turned_counts) (ps := ["held", "parts"]) (p := 2) (m := b_turned_counts) (k := 0) (ow := ow_turned_counts) (Y.def_ 23) (Y.glo 53) S_turned_counts rfl rfl (by decide) (fun _ _ _ _ _ _ us hl => match us, hl with | [_, _], _ => rfl) (fun cdv A outer s H E T => (ss_cons (s_set (ps_set (i := 2) T.nd rfl (Or.inr rfl) (x_var (pv 0) rfl)) rfl)
  (ss_cons (s_for T.po T.calm (i_seq (x_var (pv 1) rfl)) (g_nm (pg_name (i := 3) T.nd rfl (Or.inr rfl)) rfl) (ss_one (s_set (ps_set (i := 2) T.nd rfl (Or.inr rfl) (e_of (f_lc (own := [("rest", 4)]) T (i_gr (i_rng1 rfl (Y.free 0) (x_b1 v_len n_len rfl (Y.free 1) hv_len (w_of (x_var (pv 2) rfl))))) (blkOk_by (N := N_turned_counts) (sc := sc_turned_counts) (own := [("rest", 4)]) (by decide +kernel)) (fun _ _ _ _ _ T1 => (g_nm (pg_name (i := 4) T1.nd rfl (Or.inl rfl)) rfl)) (fun _ _ _ _ _ T1 => ts_nil) (fun _ _ _ _ _ T1 => (x_bin y_or n_or (w_of (x_bin y_and n_and (w_of (x_idx (w_of (x_var (pv 2) rfl)) (w_of (x_var (pv 4) rfl)))) (w_of (x_un y_inv n_inv (w_of (x_var (pv 3) rfl)))))) (w_of (x_bin y_and n_and (w_of (x_idx (w_of (x_var (pv 2) rfl)) (w_of (x_bin y_sub n_sub (w_of (x_var (pv 4) rfl)) (w_of x_int))))) (w_of (x_var (pv 3) rfl)))))) (by decide)))) rfl)))
  (ss_one (s_ret (x_var (pv 2) rfl))))))
theorem S_run_deeds : FnScope N_run_deeds ["row", "begin", "held", "full"] sc_run_deeds := ⟨rfl, rfl, rfl, by decide +kernel, rfl, by decide +kernel, by decide +kernel⟩
theorem c_run_deeds (Y : Fs P w K mg) : CallOk P w K mg base 2 "run_deeds" d_run_deeds ["row", "begin", "held", "full"] 4 m_run_deeds :=
  def_ok (d := d_run_deeds) (N := N_run_deeds) (ps := ["row", "begin", "held", "full"]) (p := 4) (m := b_run_deeds) (k := 1) (ow := ow_run_deeds) (oN := owS []) (oB := owS []) (Y.def_ 24) (Y.glo 54) S_run_deeds rfl rfl (by decide) (fun _ _ _ _ _ _ us hl => match us, hl with | [_, _, _, _], _ => rfl) (fun cdv A outer s H E T => (c_cons (o1 := owS [4]) (c_own (ps_set (i := 4) T.nd rfl (Or.inr rfl) (f_list rfl rfl (Y.free 2) (w_of (x_var (pv 1) rfl)))) rfl (owS_add (by decide)))
  (c_cons (o1 := owS [4, 5]) (c_own (ps_set (i := 5) T.nd rfl (Or.inl rfl) (f_lst xa_nil)) rfl (owS_add (by decide)))
  (c_cons (o1 := owS [4, 5]) (s_up (s_for T.po T.calm (i_seq (x_attr (att_ok (Y.more 2)) (w_of (x_var (pv 0) rfl)))) (g_nm (pg_name (i := 6) T.nd rfl (Or.inl rfl)) rfl) (c_cons (o1 := owS [4, 5]) (s_up (s_set (ps_set (i := 7) T.nd rfl (Or.inl rfl) (x_idx (w_of (x_var (pv 6) rfl)) (w_of x_int))) rfl) (owS_le (by decide)) (by decide))
  (c_cons (o1 := owS [4, 5]) (c_if (t_cmp T.eq n_eq b_eq (w_of (x_var (pv 7) rfl)) (w_of (x_str (s := "and"))) rfl) (c_one (s_up (s_set (ps_set (i := 8) T.nd rfl (Or.inl rfl) (x_bin y_and n_and (w_of (x_idx (x_own (pv 4)) (w_of (x_idx (w_of (x_var (pv 6) rfl)) (w_of x_int))))) (w_of (x_idx (x_own (pv 4)) (w_of (x_idx (w_of (x_var (pv 6) rfl)) (w_of x_int))))))) rfl) (owS_le (by decide)) (by decide))) (c_one (c_if (t_cmp T.eq n_eq b_eq (w_of (x_var (pv 7) rfl)) (w_of (x_str (s := "or"))) rfl) (c_one (s_up (s_set (ps_set (i := 8) T.nd rfl (Or.inl rfl) (x_bin y_or n_or (w_of (x_idx (x_own (pv 4)) (w_of (x_idx (w_of (x_var (pv 6) rfl)) (w_of x_int))))) (w_of (x_idx (x_own (pv 4)) (w_of (x_idx (w_of (x_var (pv 6) rfl)) (w_of x_int))))))) rfl) (owS_le (by decide)) (by decide))) (c_one (c_if (t_cmp T.eq n_eq b_eq (w_of (x_var (pv 7) rfl)) (w_of (x_str (s := "xor"))) rfl) (c_one (s_up (s_set (ps_set (i := 8) T.nd rfl (Or.inl rfl) (x_bin y_xor n_xor (w_of (x_idx (x_own (pv 4)) (w_of (x_idx (w_of (x_var (pv 6) rfl)) (w_of x_int))))) (w_of (x_idx (x_own (pv 4)) (w_of (x_idx (w_of (x_var (pv 6) rfl)) (w_of x_int))))))) rfl) (owS_le (by decide)) (by decide))) (c_one (c_if (t_cmp T.eq n_eq b_eq (w_of (x_var (pv 7) rfl)) (w_of (x_str (s := "not"))) rfl) (c_one (s_up (s_set (ps_set (i := 8) T.nd rfl (Or.inl rfl) (x_bin y_xor n_xor (w_of (x_var (pv 3) rfl)) (w_of (x_idx (x_own (pv 4)) (w_of (x_idx (w_of (x_var (pv 6) rfl)) (w_of x_int))))))) rfl) (owS_le (by decide)) (by decide))) (c_one (c_if (t_cmp T.eq n_eq b_eq (w_of (x_var (pv 7) rfl)) (w_of (x_str (s := "zero"))) rfl) (c_one (s_up (s_set (ps_set (i := 8) T.nd rfl (Or.inl rfl) x_int) rfl) (owS_le (by decide)) (by decide))) (c_one (c_if (t_cmp T.eq n_eq b_eq (w_of (x_var (pv 7) rfl)) (w_of (x_str (s := "ones"))) rfl) (c_one (s_up (s_set (ps_set (i := 8) T.nd rfl (Or.inl rfl) (x_var (pv 3) rfl)) rfl) (owS_le (by decide)) (by decide))) (c_one (c_if (t_cmp T.eq n_eq b_eq (w_of (x_var (pv 7) rfl)) (w_of (x_str (s := "count"))) rfl) (c_cons (o1 := owS [4, 5]) (s_up (s_set (ps_set (i := 9) T.nd rfl (Or.inl rfl) (x_idx (w_of (x_var (pv 2) rfl)) (w_of (x_b1 v_len n_len rfl (Y.free 1) hv_len (x_own (pv 5)))))) rfl) (owS_le (by decide)) (by decide))
  (c_cons (o1 := owS [4, 5]) (s_up (s_set (ps_set (i := 8) T.nd rfl (Or.inl rfl) (x_idx (w_of (x_var (pv 9) rfl)) (w_of (x_idx (w_of (x_var (pv 6) rfl)) (w_of x_int))))) rfl) (owS_le (by decide)) (by decide))
  (c_one (s_up (s_app1 (i := 5) (pv 5) (x_own1 T (c_turned_counts Y) (by decide) rfl (xa_cons (x_var (pv 9) rfl) (xa_cons (e_of (f_lc (own := [("i", 11)]) T (i_gr (i_seq (x_idx (w_of (x_var (pv 6) rfl)) (w_of x_int)))) (blkOk_by (N := N_run_deeds) (sc := sc_run_deeds) (own := [("i", 11)]) (by decide +kernel)) (fun _ _ _ _ _ T1 => (g_nm (pg_name (i := 11) T1.nd rfl (Or.inl rfl)) rfl)) (fun _ _ _ _ _ T1 => ts_nil) (fun _ _ _ _ _ T1 => (x_idx (x_own (pv 4)) (w_of (x_var (pv 11) rfl)))) (by decide))) xa_nil))) rfl) (owS_le (by decide)) (by decide))))) (c_cons (o1 := owS [4, 5]) (s_up (s_gen (ps_asg (x_own1 T (c_carry_step Y) (by decide) rfl (xa_cons (x_var (pv 7) rfl) (xa_cons (x_idx (x_own (pv 4)) (w_of (x_idx (w_of (x_var (pv 6) rfl)) (w_of x_int)))) (xa_cons (x_idx (x_own (pv 4)) (w_of (x_idx (w_of (x_var (pv 6) rfl)) (w_of (x_un y_neg n_neg (w_of x_int)))))) (xa_cons (x_idx (w_of (x_var (pv 2) rfl)) (w_of (x_b1 v_len n_len rfl (Y.free 1) hv_len (x_own (pv 5))))) xa_nil))))) (g_tup T.calm (gs_cons (g_nm (pg_name (i := 8) T.nd rfl (Or.inl rfl)) rfl) (gs_cons (g_nm (pg_name (i := 10) T.nd rfl (Or.inl rfl)) rfl) gs_nil))))) (owS_le (by decide)) (by decide))
  (c_one (s_up (s_app1 (i := 5) (pv 5) (x_var (pv 10) rfl) rfl) (owS_le (by decide)) (by decide)))))))))))))))))
  (c_one (s_up (s_app1 (i := 4) (pv 4) (x_var (pv 8) rfl) rfl) (owS_le (by decide)) (by decide)))))) (owS_le (by decide)) (by decide))
  (c_cut (o1 := owS []) (c_one (s_up (s_ret (x_tup (xa_cons (x_var (pv 4) rfl) (xa_cons (x_var (pv 5) rfl) xa_nil)))) (owS_le (by decide)) (by decide))) (owS_le (by decide)) (by decide))))))
theorem S_place_step : FnScope N_place_step ["row", "marks", "letter"] sc_place_step := ⟨rfl, rfl, rfl, by decide +kernel, rfl, by decide +kernel, by decide +kernel⟩
theorem c_place_step (Y : Fs P w K mg) : CallOk P w K mg base 3 "place_step" d_place_step ["row", "marks", "letter"] 3 m_place_step :=
  def_ok (d := d_place_step) (N := N_place_step) (ps := ["row", "marks", "letter"]) (p := 3) (m := b_place_step) (k := 2) (ow := ow_place_step) (Y.def_ 25) (Y.glo 55) S_place_step rfl rfl (by decide) (fun _ _ _ _ _ _ us hl => match us, hl with | [_, _, _], _ => rfl) (fun cdv A outer s H E T => (ss_cons (s_set (s_f (s_lc0 (i := 3) (own := [("i", 6)]) T rfl rfl rfl (i_gr (i_rng1 rfl (Y.free 0) (x_attr (att_ok (Y.more 1)) (w_of (x_var (pv 0) rfl))))) (blkOk_by (N := N_place_step) (sc := sc_place_step) (own := [("i", 6)]) (by decide +kernel)) (fun _ _ _ _ _ T1 => (g_nm (pg_name (i := 6) T1.nd rfl (Or.inl rfl)) rfl)) (fun _ _ _ _ _ T1 => ts_nil) (fun _ _ _ _ _ T1 => (x_bin y_and n_and (w_of (x_bin y_shr n_shr (w_of (x_var (pv 2) rfl)) (w_of (x_var (pv 6) rfl)))) (w_of x_int))) (by decide))) rfl)
  (ss_cons (s_gen (ps_asg (x_own1 T (c_run_deeds Y) (by decide) rfl (xa_cons (x_var (pv 0) rfl) (xa_cons (x_var (pv 3) rfl) (xa_cons (x_own1 T (c_held_lanes Y) (by decide) rfl (xa_cons (x_var (pv 0) rfl) (xa_cons (e_of (f_lst (xa_cons (x_var (pv 1) rfl) xa_nil))) (xa_cons x_int (xa_cons x_int xa_nil))))) (xa_cons x_int xa_nil))))) (g_tup T.calm (gs_cons (g_nm (pg_name (i := 4) T.nd rfl (Or.inl rfl)) rfl) (gs_cons (g_nm (pg_name (i := 5) T.nd rfl (Or.inl rfl)) rfl) gs_nil)))))
  (ss_one (s_ret (x_tup (xa_cons (x_t1 v_tuple n_tuple rfl (Y.free 3) hv_tuple (w_of (x_var (pv 4) rfl))) (xa_cons (x_t1 v_tuple n_tuple rfl (Y.free 3) hv_tuple (w_of (e_of (f_lc (own := [("mark", 7)]) T (i_gr (i_seq (x_var (pv 5) rfl))) (blkOk_by (N := N_place_step) (sc := sc_place_step) (own := [("mark", 7)]) (by decide +kernel)) (fun _ _ _ _ _ T2 => (g_nm (pg_name (i := 7) T2.nd rfl (Or.inl rfl)) rfl)) (fun _ _ _ _ _ T2 => ts_nil) (fun _ _ _ _ _ T2 => (x_idx (w_of (x_own1 T2 (c_mark_column Y) (by decide) rfl (xa_cons (x_var (pv 7) rfl) (xa_cons x_int xa_nil)))) (w_of x_int))) (by decide))))) xa_nil))))))))
theorem S_marks_after : FnScope N_marks_after ["row", "reading"] sc_marks_after := ⟨rfl, rfl, rfl, by decide +kernel, rfl, by decide +kernel, by decide +kernel⟩
theorem c_marks_after (Y : Fs P w K mg) : CallOk P w K mg base 4 "marks_after" d_marks_after ["row", "reading"] 2 m_marks_after :=
  def_ok (d := d_marks_after) (N := N_marks_after) (ps := ["row", "reading"]) (p := 2) (m := b_marks_after) (k := 3) (ow := ow_marks_after) (Y.def_ 26) (Y.glo 56) S_marks_after rfl rfl (by decide) (fun _ _ _ _ _ _ us hl => match us, hl with | [_, _], _ => rfl) (fun cdv A outer s H E T => (ss_cons (s_if (t_not (t_tst (w_of (x_own1 T (c_is_reading Y) (by decide) rfl (xa_cons (x_var (pv 1) rfl) (xa_cons (x_attr (att_ok (Y.more 1)) (w_of (x_var (pv 0) rfl))) xa_nil)))) (by intro _; rfl))) (ss_one (s_raise T (er_InvalidReading Y) (by decide) rfl (xa_cons (x_var (pv 1) rfl) xa_nil))) ss_nil)
  (ss_cons (s_set (ps_set (i := 2) T.nd rfl (Or.inl rfl) (x_own1 T (c_first_marks Y) (by decide) rfl (xa_cons (x_var (pv 0) rfl) xa_nil))) rfl)
  (ss_cons (s_for T.po T.calm (i_seq (x_var (pv 1) rfl)) (g_nm (pg_name (i := 3) T.nd rfl (Or.inl rfl)) rfl) (ss_one (s_set (ps_set (i := 2) T.nd rfl (Or.inl rfl) (x_idx (w_of (x_own1 T (c_place_step Y) (by decide) rfl (xa_cons (x_var (pv 0) rfl) (xa_cons (x_var (pv 2) rfl) (xa_cons (x_var (pv 3) rfl) xa_nil))))) (w_of x_int))) rfl)))
  (ss_one (s_ret (x_var (pv 2) rfl)))))))
theorem S__law_reading_refused : FnScope N__law_reading_refused ["row", "reading"] sc__law_reading_refused := ⟨rfl, rfl, rfl, by decide +kernel, rfl, by decide +kernel, by decide +kernel⟩
theorem c_law_reading_refused (Y : Fs P w K mg) : CallOk P w K mg base 14 "_law_reading_refused" d__law_reading_refused ["row", "reading"] 2 m_law_reading_refused :=
  def_ok (d := d__law_reading_refused) (N := N__law_reading_refused) (ps := ["row", "reading"]) (p := 2) (m := b__law_reading_refused) (k := 13) (ow := ow__law_reading_refused) (Y.def_ 27) (Y.glo 57) S__law_reading_refused rfl rfl (by decide) (fun _ _ _ _ _ _ us hl => match us, hl with | [_, _], _ => rfl) (fun cdv A outer s H E T => (ss_cons (s_try (es := ES) (all := EALL) (fl := EFL) (i := 2) T (ers_ok (Y.more 5)) (Y.glo 26) rfl rfl rfl rfl rfl
  (fun _ _ _ T1 => (bs_one (b_drop (ps_expr (x_own1 T1 (c_marks_after Y) (by decide) rfl (xa_cons (x_var (pv 0) rfl) (xa_cons (x_var (pv 1) rfl) xa_nil)))))))
  (fun _ _ c_e _ fs_e _ hc_e hz_e hv_e T2 => (ss_cons (s_if (t_tst (w_of (x_xisT (es := ES) (all := EALL) (fl := EFL) (ers_ok (Y.more 5)) hc_e hz_e hv_e rfl rfl (Y.free 4) (pv 2) (XcL.cons (t := "InvalidWords") (xc_glob (t := "InvalidWords") (by decide) rfl (Y.glo 12)) (XcL.cons (t := "InvalidNumber") (xc_glob (t := "InvalidNumber") (by decide) rfl (Y.glo 13)) (XcL.cons (t := "InvalidMachine") (xc_glob (t := "InvalidMachine") (by decide) rfl (Y.glo 14)) (XcL.cons (t := "InvalidRow") (xc_glob (t := "InvalidRow") (by decide) rfl (Y.glo 15)) (XcL.cons (t := "InvalidMarks") (xc_glob (t := "InvalidMarks") (by decide) rfl (Y.glo 16)) (XcL.cons (t := "InvalidKind") (xc_glob (t := "InvalidKind") (by decide) rfl (Y.glo 17)) XcL.nil rfl) rfl) rfl) rfl) rfl) rfl) (by decide))) (by intro _; rfl)) (ss_one (s_ret x_bl)) ss_nil)
  (ss_cons (s_if (t_tst (w_of (x_xisT (es := ES) (all := EALL) (fl := EFL) (ers_ok (Y.more 5)) hc_e hz_e hv_e rfl rfl (Y.free 4) (pv 2) (XcL.cons (t := "InvalidPrimes") (xc_glob (t := "InvalidPrimes") (by decide) rfl (Y.glo 18)) (XcL.cons (t := "InvalidText") (xc_glob (t := "InvalidText") (by decide) rfl (Y.glo 19)) (XcL.cons (t := "InvalidCommand") (xc_glob (t := "InvalidCommand") (by decide) rfl (Y.glo 20)) (XcL.cons (t := "Undefined") (xc_glob (t := "Undefined") (by decide) rfl (Y.glo 21)) (XcL.cons (t := "NothingToDo") (xc_glob (t := "NothingToDo") (by decide) rfl (Y.glo 22)) (XcL.cons (t := "NothingKept") (xc_glob (t := "NothingKept") (by decide) rfl (Y.glo 23)) XcL.nil rfl) rfl) rfl) rfl) rfl) rfl) (by decide))) (by intro _; rfl)) (ss_one (s_ret x_bl)) ss_nil)
  (ss_one (s_ret (x_and (x_xis1 (t := "InvalidReading") (es := ES) (all := EALL) (fl := EFL) (ers_ok (Y.more 5)) hc_e hz_e hv_e rfl rfl (Y.free 4) (pv 2) (xc_glob (t := "InvalidReading") (by decide) rfl (Y.glo 24))) (x_and (x_xis1 (t := "ValueError") (es := ES) (all := EALL) (fl := EFL) (ers_ok (Y.more 5)) hc_e hz_e hv_e rfl rfl (Y.free 4) (pv 2) (xc_ve rfl (Y.free 25))) (x_one (x_own1H T2 (cH_law_alike Y 12) (by decide) rfl (xa_cons (x_xfld (es := ES) (all := EALL) (fl := EFL) (ers_ok (Y.more 5)) hc_e hz_e hv_e (pv 2)) (xa_cons (x_var (pv 1) rfl) xa_nil))))))))))))
  (ss_one (s_ret x_bl))))
theorem S_fits_limits : FnScope N_fits_limits ["value", "limits"] sc_fits_limits := ⟨rfl, rfl, rfl, by decide +kernel, rfl, by decide +kernel, by decide +kernel⟩
theorem c_fits_limits (Y : Fs P w K mg) : CallOk P w K mg base 3 "fits_limits" d_fits_limits ["value", "limits"] 2 m_fits_limits :=
  def_ok (d := d_fits_limits) (N := N_fits_limits) (ps := ["value", "limits"]) (p := 2) (m := b_fits_limits) (k := 2) (ow := ow_fits_limits) (Y.def_ 28) (Y.glo 58) S_fits_limits rfl rfl (by decide) (fun _ _ _ _ _ _ us hl => match us, hl with | [_, _], _ => rfl) (fun cdv A outer s H E T => (ss_cons (s_if (PW.pt (t_or (t_not (t_tst (w_of (x_isi1 (cs := CS) (t := .tup) rfl (kit_of_b (Y.more 0)) rfl (Y.free 4) (w_of (x_var (pv 0) rfl)) (pe_bltn rfl (Y.free 3) hv_tuple rfl))) (by intro _; rfl))) (t_or1 (t_cmp T.ne n_ne b_ne (w_of (x_b1 v_len n_len rfl (Y.free 1) hv_len (w_of (x_var (pv 0) rfl)))) (w_of (x_b1 v_len n_len rfl (Y.free 1) hv_len (w_of (x_var (pv 1) rfl)))) rfl)))) (ss_one (s_ret x_bl)) ss_nil)
  (ss_one (s_ret (x_b1 (v_all T.calm) n_all rfl (Y.free 10) hv_all (w_of (e_of (f_lc (own := [("mark", 2), ("limit", 3)]) T (i_gr (i_zip rfl (Y.free 29) (x_var (pv 0) rfl) (x_var (pv 1) rfl))) (blkOk_by (N := N_fits_limits) (sc := sc_fits_limits) (own := [("mark", 2), ("limit", 3)]) (by decide +kernel)) (fun _ _ _ _ _ T1 => (g_tup T1.calm (gs_cons (g_nm (pg_name (i := 2) T1.nd rfl (Or.inl rfl)) rfl) (gs_cons (g_nm (pg_name (i := 3) T1.nd rfl (Or.inl rfl)) rfl) gs_nil)))) (fun _ _ _ _ _ T1 => ts_nil) (fun _ _ _ _ _ T1 => (x_own1 T1 (c_is_below Y) (by decide) rfl (xa_cons (x_var (pv 2) rfl) (xa_cons (x_var (pv 3) rfl) xa_nil)))) (by decide)))))))))
theorem S_mark_limits : FnScope N_mark_limits ["row"] sc_mark_limits := ⟨rfl, rfl, rfl, by decide +kernel, rfl, by decide +kernel, by decide +kernel⟩
theorem c_mark_limits (Y : Fs P w K mg) : CallOk P w K mg base 2 "mark_limits" d_mark_limits ["row"] 1 m_mark_limits :=
  def_ok (d := d_mark_limits) (N := N_mark_limits) (ps := ["row"]) (p := 1) (m := b_mark_limits) (k := 1) (ow := ow_mark_limits) (Y.def_ 29) (Y.glo 59) S_mark_limits rfl rfl (by decide) (fun _ _ _ _ _ _ us hl => match us, hl with | [_], _ => rfl) (fun cdv A outer s H E T => (ss_one (s_ret (e_of (f_lc (own := [("deed", 1)]) T (i_gr (i_seq (x_own1 T (c_mark_deeds Y) (by decide) rfl (xa_cons (x_var (pv 0) rfl) xa_nil)))) (blkOk_by (N := N_mark_limits) (sc := sc_mark_limits) (own := [("deed", 1)]) (by decide +kernel)) (fun _ _ _ _ _ T1 => (g_nm (pg_name (i := 1) T1.nd rfl (Or.inl rfl)) rfl)) (fun _ _ _ _ _ T1 => ts_nil) (fun _ _ _ _ _ T1 => (x_ifExp (t_cmp T1.eq n_eq b_eq (w_of (x_idx (w_of (x_var (pv 1) rfl)) (w_of x_int))) (w_of (x_str (s := "count"))) rfl) (x_idx (w_of (x_var (pv 1) rfl)) (w_of x_int)) x_int)) (by decide))))))
theorem S_is_marks : FnScope N_is_marks ["row", "value"] sc_is_marks := ⟨rfl, rfl, rfl, by decide +kernel, rfl, by decide +kernel, by decide +kernel⟩
theorem c_is_marks (Y : Fs P w K mg) : CallOk P w K mg base 4 "is_marks" d_is_marks ["row", "value"] 2 m_is_marks :=
  def_ok (d := d_is_marks) (N := N_is_marks) (ps := ["row", "value"]) (p := 2) (m := b_is_marks) (k := 3) (ow := ow_is_marks) (Y.def_ 30) (Y.glo 60) S_is_marks rfl rfl (by decide) (fun _ _ _ _ _ _ us hl => match us, hl with | [_, _], _ => rfl) (fun cdv A outer s H E T => (ss_one (s_ret (x_own1 T (c_fits_limits Y) (by decide) rfl (xa_cons (x_var (pv 1) rfl) (xa_cons (x_own1 T (c_mark_limits Y) (by decide) rfl (xa_cons (x_var (pv 0) rfl) xa_nil)) xa_nil))))))
theorem S_mark_step : FnScope N_mark_step ["row", "marks", "letter"] sc_mark_step := ⟨rfl, rfl, rfl, by decide +kernel, rfl, by decide +kernel, by decide +kernel⟩
theorem c_mark_step (Y : Fs P w K mg) : CallOk P w K mg base 5 "mark_step" d_mark_step ["row", "marks", "letter"] 3 m_mark_step :=
  def_ok (d := d_mark_step) (N := N_mark_step) (ps := ["row", "marks", "letter"]) (p := 3) (m := b_mark_step) (k := 4) (ow := ow_mark_step) (Y.def_ 31) (Y.glo 61) S_mark_step rfl rfl (by decide) (fun _ _ _ _ _ _ us hl => match us, hl with | [_, _, _], _ => rfl) (fun cdv A outer s H E T => (ss_cons (s_if (t_not (t_tst (w_of (x_own1 T (c_is_marks Y) (by decide) rfl (xa_cons (x_var (pv 0) rfl) (xa_cons (x_var (pv 1) rfl) xa_nil)))) (by intro _; rfl))) (ss_one (s_raise T (er_InvalidMarks Y) (by decide) rfl (xa_cons (x_var (pv 1) rfl) xa_nil))) ss_nil)
  (ss_cons (s_if (t_not (t_tst (w_of (x_own1 T (c_is_below Y) (by decide) rfl (xa_cons (x_var (pv 2) rfl) (xa_cons (x_bin y_shl n_shl (w_of x_int) (w_of (x_attr (att_ok (Y.more 1)) (w_of (x_var (pv 0) rfl))))) xa_nil)))) (by intro _; rfl))) (ss_one (s_raise T (er_InvalidNumber Y) (by decide) rfl (xa_cons (x_var (pv 2) rfl) xa_nil))) ss_nil)
  (ss_one (s_ret (x_own1 T (c_place_step Y) (by decide) rfl (xa_cons (x_var (pv 0) rfl) (xa_cons (x_var (pv 1) rfl) (xa_cons (x_var (pv 2) rfl) xa_nil)))))))))
theorem S__law_step_refused : FnScope N__law_step_refused ["row", "thing", "letter", "first"] sc__law_step_refused := ⟨rfl, rfl, rfl, by decide +kernel, rfl, by decide +kernel, by decide +kernel⟩
theorem c_law_step_refused (Y : Fs P w K mg) : CallOk P w K mg base 14 "_law_step_refused" d__law_step_refused ["row", "thing", "letter", "first"] 4 m_law_step_refused :=
  def_ok (d := d__law_step_refused) (N := N__law_step_refused) (ps := ["row", "thing", "letter", "first"]) (p := 4) (m := b__law_step_refused) (k := 13) (ow := ow__law_step_refused) (Y.def_ 32) (Y.glo 62) S__law_step_refused rfl rfl (by decide) (fun _ _ _ _ _ _ us hl => match us, hl with | [_, _, _, _], _ => rfl) (fun cdv A outer s H E T => (ss_cons (s_try (es := ES) (all := EALL) (fl := EFL) (i := 4) T (ers_ok (Y.more 5)) (Y.glo 26) rfl rfl rfl rfl rfl
  (fun _ _ _ T1 => (bs_one (b_drop (ps_expr (x_own1 T1 (c_mark_step Y) (by decide) rfl (xa_cons (x_var (pv 0) rfl) (xa_cons (x_var (pv 1) rfl) (xa_cons (x_var (pv 2) rfl) xa_nil))))))))
  (fun _ _ c_e _ fs_e _ hc_e hz_e hv_e T2 => (ss_cons (s_if (t_tst (w_of (x_xisT (es := ES) (all := EALL) (fl := EFL) (ers_ok (Y.more 5)) hc_e hz_e hv_e rfl rfl (Y.free 4) (pv 4) (XcL.cons (t := "InvalidWords") (xc_glob (t := "InvalidWords") (by decide) rfl (Y.glo 12)) (XcL.cons (t := "InvalidReading") (xc_glob (t := "InvalidReading") (by decide) rfl (Y.glo 24)) (XcL.cons (t := "InvalidMachine") (xc_glob (t := "InvalidMachine") (by decide) rfl (Y.glo 14)) (XcL.cons (t := "InvalidRow") (xc_glob (t := "InvalidRow") (by decide) rfl (Y.glo 15)) (XcL.cons (t := "InvalidKind") (xc_glob (t := "InvalidKind") (by decide) rfl (Y.glo 17)) (XcL.cons (t := "InvalidPrimes") (xc_glob (t := "InvalidPrimes") (by decide) rfl (Y.glo 18)) XcL.nil rfl) rfl) rfl) rfl) rfl) rfl) (by decide))) (by intro _; rfl)) (ss_one (s_ret x_bl)) ss_nil)
  (ss_cons (s_if (t_tst (w_of (x_xisT (es := ES) (all := EALL) (fl := EFL) (ers_ok (Y.more 5)) hc_e hz_e hv_e rfl rfl (Y.free 4) (pv 4) (XcL.cons (t := "InvalidText") (xc_glob (t := "InvalidText") (by decide) rfl (Y.glo 19)) (XcL.cons (t := "InvalidCommand") (xc_glob (t := "InvalidCommand") (by decide) rfl (Y.glo 20)) (XcL.cons (t := "Undefined") (xc_glob (t := "Undefined") (by decide) rfl (Y.glo 21)) (XcL.cons (t := "NothingToDo") (xc_glob (t := "NothingToDo") (by decide) rfl (Y.glo 22)) (XcL.cons (t := "NothingKept") (xc_glob (t := "NothingKept") (by decide) rfl (Y.glo 23)) XcL.nil rfl) rfl) rfl) rfl) rfl) (by decide))) (by intro _; rfl)) (ss_one (s_ret x_bl)) ss_nil)
  (ss_cons (s_if (PW.pt (t_or (t_cmp T2.ne n_ne b_ne (w_of (x_xis1 (t := "InvalidMarks") (es := ES) (all := EALL) (fl := EFL) (ers_ok (Y.more 5)) hc_e hz_e hv_e rfl rfl (Y.free 4) (pv 4) (xc_glob (t := "InvalidMarks") (by decide) rfl (Y.glo 16)))) (w_of (x_var (pv 3) rfl)) rfl) (t_or1 (t_cmp T2.eq n_eq b_eq (w_of (x_xis1 (t := "InvalidNumber") (es := ES) (all := EALL) (fl := EFL) (ers_ok (Y.more 5)) hc_e hz_e hv_e rfl rfl (Y.free 4) (pv 4) (xc_glob (t := "InvalidNumber") (by decide) rfl (Y.glo 13)))) (w_of (x_var (pv 3) rfl)) rfl)))) (ss_one (s_ret x_bl)) ss_nil)
  (ss_cons (s_if (t_tst (w_of (x_var (pv 3) rfl)) (by intro _; rfl)) (ss_one (s_ret (x_and (x_xis1 (t := "ValueError") (es := ES) (all := EALL) (fl := EFL) (ers_ok (Y.more 5)) hc_e hz_e hv_e rfl rfl (Y.free 4) (pv 4) (xc_ve rfl (Y.free 25))) (x_one (x_own1H T2 (cH_law_alike Y 12) (by decide) rfl (xa_cons (x_xfld (es := ES) (all := EALL) (fl := EFL) (ers_ok (Y.more 5)) hc_e hz_e hv_e (pv 4)) (xa_cons (x_var (pv 1) rfl) xa_nil))))))) ss_nil)
  (ss_one (s_ret (x_and (x_xis1 (t := "ValueError") (es := ES) (all := EALL) (fl := EFL) (ers_ok (Y.more 5)) hc_e hz_e hv_e rfl rfl (Y.free 4) (pv 4) (xc_ve rfl (Y.free 25))) (x_one (x_own1H T2 (cH_law_alike Y 12) (by decide) rfl (xa_cons (x_xfld (es := ES) (all := EALL) (fl := EFL) (ers_ok (Y.more 5)) hc_e hz_e hv_e (pv 4)) (xa_cons (x_var (pv 2) rfl) xa_nil)))))))))))))
  (ss_one (s_ret x_bl))))
theorem S__law_tops : FnScope N__law_tops ["deeds"] sc__law_tops := ⟨rfl, rfl, rfl, by decide +kernel, rfl, by decide +kernel, by decide +kernel⟩
theorem c_law_tops (Y : Fs P w K mg) : CallOk P w K mg base 1 "_law_tops" d__law_tops ["deeds"] 1 m_law_tops :=
  def_ok (d := d__law_tops) (N := N__law_tops) (ps := ["deeds"]) (p := 1) (m := b__law_tops) (k := 0) (ow := ow__law_tops) (oN := owS []) (oB := owS []) (Y.def_ 33) (Y.glo 63) S__law_tops rfl rfl (by decide) (fun _ _ _ _ _ _ us hl => match us, hl with | [_], _ => rfl) (fun cdv A outer s H E T => (c_cons (o1 := owS [1]) (c_own (ps_set (i := 1) T.nd rfl (Or.inl rfl) (f_lst xa_nil)) rfl (owS_add (by decide)))
  (c_cons (o1 := owS [1]) (s_up (s_for T.po T.calm (i_seq (x_var (pv 0) rfl)) (g_nm (pg_name (i := 2) T.nd rfl (Or.inl rfl)) rfl) (c_cons (o1 := owS [1]) (c_if (t_cmp y_in n_in b_in (w_of (x_idx (w_of (x_var (pv 2) rfl)) (w_of x_int))) (w_of (e_of (f_lst (xa_cons (x_str (s := "shift")) (xa_cons (x_str (s := "minus")) (xa_cons (x_str (s := "add")) (xa_cons (x_str (s := "sub")) xa_nil))))))) rfl) (c_one (s_up (s_app1 (i := 1) (pv 1) x_int rfl) (owS_le (by decide)) (by decide))) (c_cut (o1 := owS [1]) c_nil (owS_le (by decide)) (by decide)))
  (c_one (c_if (t_cmp T.eq n_eq b_eq (w_of (x_idx (w_of (x_var (pv 2) rfl)) (w_of x_int))) (w_of (x_str (s := "count"))) rfl) (c_one (s_up (s_app1 (i := 1) (pv 1) (x_idx (w_of (x_var (pv 2) rfl)) (w_of x_int)) rfl) (owS_le (by decide)) (by decide))) (c_cut (o1 := owS [1]) c_nil (owS_le (by decide)) (by decide)))))) (owS_le (by decide)) (by decide))
  (c_cut (o1 := owS []) (c_one (s_up (s_ret (x_var (pv 1) rfl)) (owS_le (by decide)) (by decide))) (owS_le (by decide)) (by decide)))))
theorem S__law_holds : FnScope N__law_holds ["script"] sc__law_holds := ⟨rfl, rfl, rfl, by decide +kernel, rfl, by decide +kernel, by decide +kernel⟩
theorem c_law_holds (Y : Fs P w K mg) : CallOk P w K mg base 15 "_law_holds" d__law_holds ["script"] 1 m_law_holds :=
  def_ok (d := d__law_holds) (N := N__law_holds) (ps := ["script"]) (p := 1) (m := b__law_holds) (k := 14) (ow := ow__law_holds) (oN := owS []) (oB := owS []) (Y.def_ 34) (Y.glo 64) S__law_holds rfl rfl (by decide) (fun _ _ _ _ _ _ us hl => match us, hl with | [_], _ => rfl) (fun cdv A outer s H E T => (c_cons (o1 := owS []) (s_up (s_set (ps_set (i := 1) T.nd rfl (Or.inl rfl) (x_own1 T (c_law_draws Y) (by decide) rfl (xa_cons (x_own1 T (c_law_cell Y) (by decide) rfl (xa_cons (x_var (pv 0) rfl) (xa_cons x_int xa_nil))) (xa_cons (e_of (f_lst (xa_cons x_int (xa_cons x_int (xa_cons x_int (xa_cons x_int (xa_cons x_int (xa_cons x_int (xa_cons x_int (xa_cons x_int xa_nil)))))))))) xa_nil)))) rfl) (owS_le (by decide)) (by decide))
  (c_cons (o1 := owS []) (s_up (s_set (ps_set (i := 2) T.nd rfl (Or.inl rfl) (x_bin y_add n_add (w_of x_int) (w_of (x_idx (w_of (x_var (pv 1) rfl)) (w_of x_int))))) rfl) (owS_le (by decide)) (by decide))
  (c_cons (o1 := owS [3]) (c_own (ps_set (i := 3) T.nd rfl (Or.inl rfl) (f_lst xa_nil)) rfl (owS_add (by decide)))
  (c_cons (o1 := owS [3]) (s_up (s_for T.po T.calm (i_rng1 rfl (Y.free 0) (x_idx (w_of (x_var (pv 1) rfl)) (w_of x_int))) (g_nm (pg_name (i := 4) T.nd rfl (Or.inl rfl)) rfl) (c_one (s_up (s_app1 (i := 3) (pv 3) (x_own1 T (c_law_deed Y) (by decide) rfl (xa_cons (x_own1 T (c_law_draws Y) (by decide) rfl (xa_cons (x_own1 T (c_law_cell Y) (by decide) rfl (xa_cons (x_var (pv 0) rfl) (xa_cons (x_bin y_add n_add (w_of x_int) (w_of (x_var (pv 4) rfl))) xa_nil))) (xa_cons (e_of (f_lst (xa_cons x_int (xa_cons x_int (xa_cons x_int (xa_cons x_int (xa_cons x_int (xa_cons x_int (xa_cons x_int xa_nil))))))))) xa_nil))) (xa_cons (x_bin y_add n_add (w_of (x_var (pv 2) rfl)) (w_of (x_var (pv 4) rfl))) xa_nil))) rfl) (owS_le (by decide)) (by decide)))) (owS_le (by decide)) (by decide))
  (c_cut (o1 := owS []) (c_cons (o1 := owS []) (s_up (s_set (ps_set (i := 5) T.nd rfl (Or.inl rfl) (x_new (cls := "Row") T (fun _ _ _ _ _ h => h) (c_Row Y) (by decide) rfl (xa_cons (x_var (pv 2) rfl) (xa_cons (e_of (f_list rfl rfl (Y.free 2) (w_of (x_var (pv 3) rfl)))) (xa_cons (x_bin y_sub n_sub (w_of (x_bin y_add n_add (w_of (x_var (pv 2) rfl)) (w_of (x_b1 v_len n_len rfl (Y.free 1) hv_len (w_of (x_var (pv 3) rfl)))))) (w_of x_int)) xa_nil))))) rfl) (owS_le (by decide)) (by decide))
  (c_cons (o1 := owS []) (s_up (s_set (ps_set (i := 6) T.nd rfl (Or.inl rfl) (x_own1 T (c_law_tops Y) (by decide) rfl (xa_cons (x_var (pv 3) rfl) xa_nil))) rfl) (owS_le (by decide)) (by decide))
  (c_cons (o1 := owS []) (s_up (s_set (ps_set (i := 7) T.nd rfl (Or.inl rfl) (x_bin y_trep n_trep (w_of (x_tup (xa_cons x_int xa_nil))) (w_of (x_b1 v_len n_len rfl (Y.free 1) hv_len (w_of (x_var (pv 6) rfl)))))) rfl) (owS_le (by decide)) (by decide))
  (c_cons (o1 := owS []) (c_if (PW.pt (t_or (t_not (t_tst (w_of (x_own1 T (c_law_alike Y 12) (by decide) rfl (xa_cons (x_own1 T (c_first_marks Y) (by decide) rfl (xa_cons (x_var (pv 5) rfl) xa_nil)) (xa_cons (x_var (pv 7) rfl) xa_nil)))) (by intro _; rfl))) (t_or1 (t_not (t_tst (w_of (x_own1 T (c_law_alike Y 12) (by decide) rfl (xa_cons (x_kw (ks := ["row"]) (π := [0]) T (c_first_marks Y) (by decide) rfl (fun _ _ _ _ _ h => h) (fun _ _ _ _ _ _ ws hl => match ws, hl with | [_], _ => rfl) (xk_cons (x_var (pv 5) rfl) xk_nil)) (xa_cons (x_var (pv 7) rfl) xa_nil)))) (by intro _; rfl)))))) (c_one (s_up (s_ret x_bl) (owS_le (by decide)) (by decide))) (c_cut (o1 := owS []) c_nil (owS_le (by decide)) (by decide)))
  (c_cons (o1 := owS []) (s_up (s_set (ps_set (i := 8) T.nd rfl (Or.inl rfl) (x_t1 v_tuple n_tuple rfl (Y.free 3) hv_tuple (w_of (x_own1 T (c_law_draws Y) (by decide) rfl (xa_cons (x_own1 T (c_law_cell Y) (by decide) rfl (xa_cons (x_var (pv 0) rfl) (xa_cons x_int xa_nil))) (xa_cons (x_var (pv 6) rfl) xa_nil)))))) rfl) (owS_le (by decide)) (by decide))
  (c_cons (o1 := owS []) (s_up (s_set (ps_set (i := 9) T.nd rfl (Or.inl rfl) (x_own1 T (c_law_other Y) (by decide) rfl (xa_cons (x_var (pv 8) rfl) (xa_cons (x_var (pv 6) rfl) (xa_cons (x_own1 T (c_law_draws Y) (by decide) rfl (xa_cons (x_own1 T (c_law_cell Y) (by decide) rfl (xa_cons (x_var (pv 0) rfl) (xa_cons x_int xa_nil))) (xa_cons (e_of (f_lst (xa_cons x_int (xa_cons x_int (xa_cons x_int (xa_cons x_int (xa_cons x_int xa_nil))))))) xa_nil))) xa_nil))))) rfl) (owS_le (by decide)) (by decide))
  (c_cons (o1 := owS []) (s_up (s_set (ps_set (i := 10) T.nd rfl (Or.inl rfl) (x_own1 T (c_law_other Y) (by decide) rfl (xa_cons (x_var (pv 8) rfl) (xa_cons (x_var (pv 6) rfl) (xa_cons (x_bin y_add n_add (w_of (e_of (f_lst (xa_cons x_int xa_nil)))) (w_of (x_own1 T (c_law_draws Y) (by decide) rfl (xa_cons (x_own1 T (c_law_cell Y) (by decide) rfl (xa_cons (x_var (pv 0) rfl) (xa_cons x_int xa_nil))) (xa_cons (e_of (f_lst (xa_cons x_int xa_nil))) xa_nil))))) xa_nil))))) rfl) (owS_le (by decide)) (by decide))
  (c_cons (o1 := owS []) (s_up (s_for T.po T.calm (i_seq (e_of (f_lst (xa_cons (x_var (pv 8) rfl) (xa_cons (x_var (pv 9) rfl) (xa_cons (x_var (pv 10) rfl) (xa_cons (x_bin y_trep n_trep (w_of (x_tup (xa_cons x_int xa_nil))) (w_of (x_b1 v_len n_len rfl (Y.free 1) hv_len (w_of (x_var (pv 6) rfl))))) (xa_cons (e_of (f_list rfl rfl (Y.free 2) (w_of (x_var (pv 8) rfl)))) (xa_cons (x_bin y_add n_add (w_of (x_var (pv 8) rfl)) (w_of (x_tup (xa_cons x_int xa_nil)))) xa_nil))))))))) (g_nm (pg_name (i := 11) T.nd rfl (Or.inl rfl)) rfl) (c_cons (o1 := owS []) (s_up (s_set (ps_set (i := 12) T.nd rfl (Or.inl rfl) (x_own1 T (c_is_marks Y) (by decide) rfl (xa_cons (x_var (pv 5) rfl) (xa_cons (x_var (pv 11) rfl) xa_nil)))) rfl) (owS_le (by decide)) (by decide))
  (c_cons (o1 := owS []) (c_if (PW.pt (t_or (t_not (t_tst (w_of (x_isi1 (cs := CS) (t := .bl) rfl (kit_of_b (Y.more 0)) rfl (Y.free 4) (w_of (x_var (pv 12) rfl)) (pe_bltn rfl (Y.free 5) hv_bool rfl))) (by intro _; rfl))) (t_or1 (t_cmp T.ne n_ne b_ne (w_of (x_var (pv 12) rfl)) (w_of (x_own1 T (c_law_judged Y) (by decide) rfl (xa_cons (x_var (pv 6) rfl) (xa_cons (x_var (pv 11) rfl) xa_nil)))) rfl)))) (c_one (s_up (s_ret x_bl) (owS_le (by decide)) (by decide))) (c_cut (o1 := owS []) c_nil (owS_le (by decide)) (by decide)))
  (c_one (c_if (t_cmp T.ne n_ne b_ne (w_of (x_kw (ks := ["value", "row"]) (π := [1, 0]) T (c_is_marks Y) (by decide) rfl (fun _ _ _ _ _ h => h) (fun _ _ _ _ _ _ ws hl => match ws, hl with | [_, _], _ => rfl) (xk_cons (x_var (pv 11) rfl) (xk_cons (x_var (pv 5) rfl) xk_nil)))) (w_of (x_var (pv 12) rfl)) rfl) (c_one (s_up (s_ret x_bl) (owS_le (by decide)) (by decide))) (c_cut (o1 := owS []) c_nil (owS_le (by decide)) (by decide))))))) (owS_le (by decide)) (by decide))
  (c_cons (o1 := owS []) (s_up (s_set (ps_set (i := 13) T.nd rfl (Or.inl rfl) (x_bin y_shl n_shl (w_of x_int) (w_of (x_var (pv 2) rfl)))) rfl) (owS_le (by decide)) (by decide))
  (c_cons (o1 := owS []) (s_up (s_set (ps_set (i := 14) T.nd rfl (Or.inl rfl) (x_bin y_mod n_mod (w_of (x_idx (w_of (x_var (pv 1) rfl)) (w_of x_int))) (w_of (x_var (pv 13) rfl)))) rfl) (owS_le (by decide)) (by decide))
  (c_cons (o1 := owS []) (s_up (s_set (ps_set (i := 15) T.nd rfl (Or.inl rfl) (x_idx (w_of (e_of (f_lst (xa_cons (x_un y_neg n_neg (w_of x_int)) (xa_cons (x_var (pv 13) rfl) (xa_cons (x_bin y_add n_add (w_of (x_var (pv 13) rfl)) (w_of (x_idx (w_of (x_var (pv 1) rfl)) (w_of x_int)))) (xa_cons x_bl (xa_cons x_bl (xa_cons x_non (xa_cons (x_str (s := "0")) (xa_cons (x_tup (xa_cons x_int xa_nil)) (xa_cons (e_of (f_lst (xa_cons x_int xa_nil))) (xa_cons (x_un y_neg n_neg (w_of (x_bin y_pow n_pow (w_of x_int) (w_of x_int)))) (xa_cons (x_tup xa_nil) (xa_cons (x_str (s := "")) xa_nil))))))))))))))) (w_of (x_idx (w_of (x_var (pv 1) rfl)) (w_of x_int))))) rfl) (owS_le (by decide)) (by decide))
  (c_cons (o1 := owS []) (c_if (t_not (t_tst (w_of (x_own1 T (c_law_judged Y) (by decide) rfl (xa_cons (x_var (pv 6) rfl) (xa_cons (x_var (pv 9) rfl) xa_nil)))) (by intro _; rfl))) (c_one (c_if (PW.pt (t_or (t_not (t_tst (w_of (x_own1 T (c_law_step_refused Y) (by decide) rfl (xa_cons (x_var (pv 5) rfl) (xa_cons (x_var (pv 9) rfl) (xa_cons (x_var (pv 14) rfl) (xa_cons x_bl xa_nil)))))) (by intro _; rfl))) (t_or1 (t_not (t_tst (w_of (x_own1 T (c_law_step_refused Y) (by decide) rfl (xa_cons (x_var (pv 5) rfl) (xa_cons (x_var (pv 9) rfl) (xa_cons (x_var (pv 15) rfl) (xa_cons x_bl xa_nil)))))) (by intro _; rfl)))))) (c_one (s_up (s_ret x_bl) (owS_le (by decide)) (by decide))) (c_cut (o1 := owS []) c_nil (owS_le (by decide)) (by decide)))) (c_cut (o1 := owS []) c_nil (owS_le (by decide)) (by decide)))
  (c_cons (o1 := owS []) (c_if (t_not (t_tst (w_of (x_own1 T (c_law_step_refused Y) (by decide) rfl (xa_cons (x_var (pv 5) rfl) (xa_cons (x_var (pv 8) rfl) (xa_cons (x_var (pv 15) rfl) (xa_cons x_bl xa_nil)))))) (by intro _; rfl))) (c_one (s_up (s_ret x_bl) (owS_le (by decide)) (by decide))) (c_cut (o1 := owS []) c_nil (owS_le (by decide)) (by decide)))
  (c_cons (o1 := owS []) (s_up (s_set (ps_set (i := 16) T.nd rfl (Or.inl rfl) (x_own1 T (c_law_draws Y) (by decide) rfl (xa_cons (x_own1 T (c_law_cell Y) (by decide) rfl (xa_cons (x_var (pv 0) rfl) (xa_cons x_int xa_nil))) (xa_cons (e_of (f_rep (f_lst (xa_cons (x_var (pv 13) rfl) xa_nil)) (w_of (x_bin y_add n_add (w_of x_int) (w_of (x_idx (w_of (x_var (pv 1) rfl)) (w_of x_int))))))) xa_nil)))) rfl) (owS_le (by decide)) (by decide))
  (c_cons (o1 := owS []) (s_up (s_set (ps_set (i := 17) T.nd rfl (Or.inl rfl) (x_bin y_mod n_mod (w_of (x_idx (w_of (x_var (pv 1) rfl)) (w_of x_int))) (w_of (x_b1 v_len n_len rfl (Y.free 1) hv_len (w_of (x_var (pv 16) rfl)))))) rfl) (owS_le (by decide)) (by decide))
  (c_cons (o1 := owS []) (s_up (s_set (ps_set (i := 18) T.nd rfl (Or.inl rfl) (x_bin y_add n_add (w_of (x_bin y_add n_add (w_of (x_t1 v_tuple n_tuple rfl (Y.free 3) hv_tuple (w_of (x_slc (w_of (x_var (pv 16) rfl)) o_none (o_some (x_var (pv 17) rfl)))))) (w_of (x_tup (xa_cons (x_var (pv 15) rfl) xa_nil))))) (w_of (x_t1 v_tuple n_tuple rfl (Y.free 3) hv_tuple (w_of (x_slc (w_of (x_var (pv 16) rfl)) (o_some (x_bin y_add n_add (w_of (x_var (pv 17) rfl)) (w_of x_int))) o_none)))))) rfl) (owS_le (by decide)) (by decide))
  (c_cons (o1 := owS []) (c_if (t_cmp T.eq n_eq b_eq (w_of (x_idx (w_of (x_var (pv 1) rfl)) (w_of x_int))) (w_of x_int) rfl) (c_one (s_up (s_set (ps_set (i := 18) T.nd rfl (Or.inl rfl) (x_idx (w_of (e_of (f_lst (xa_cons (e_of (f_list rfl rfl (Y.free 2) (w_of (x_var (pv 16) rfl)))) (xa_cons x_non (xa_cons x_int (xa_cons (x_str (s := "01")) (xa_cons (x_tup (xa_cons (x_t1 v_tuple n_tuple rfl (Y.free 3) hv_tuple (w_of (x_var (pv 16) rfl))) xa_nil)) (xa_cons x_bl (xa_cons (e_of (f_lst xa_nil)) (xa_cons (x_str (s := "")) (xa_cons (x_un y_neg n_neg (w_of x_int)) (xa_cons (e_of (f_lst (xa_cons (x_tup (xa_cons x_int xa_nil)) xa_nil))) (xa_cons (x_var (pv 13) rfl) (xa_cons (x_tup (xa_cons (x_tup xa_nil) xa_nil)) xa_nil))))))))))))))) (w_of (x_idx (w_of (x_var (pv 1) rfl)) (w_of x_int))))) rfl) (owS_le (by decide)) (by decide))) (c_cut (o1 := owS []) c_nil (owS_le (by decide)) (by decide)))
  (c_cons (o1 := owS []) (c_if (t_not (t_tst (w_of (x_own1 T (c_law_reading_refused Y) (by decide) rfl (xa_cons (x_var (pv 5) rfl) (xa_cons (x_var (pv 18) rfl) xa_nil)))) (by intro _; rfl))) (c_one (s_up (s_ret x_bl) (owS_le (by decide)) (by decide))) (c_cut (o1 := owS []) c_nil (owS_le (by decide)) (by decide)))
  (c_cons (o1 := owS []) (s_up (s_set (ps_set (i := 19) T.nd rfl (Or.inl rfl) (x_own1 T (c_mark_step Y) (by decide) rfl (xa_cons (x_var (pv 5) rfl) (xa_cons (x_var (pv 8) rfl) (xa_cons (x_var (pv 14) rfl) xa_nil))))) rfl) (owS_le (by decide)) (by decide))
  (c_cons (o1 := owS []) (c_if (PW.pt (t_or (t_not (t_tst (w_of (x_isi1 (cs := CS) (t := .tup) rfl (kit_of_b (Y.more 0)) rfl (Y.free 4) (w_of (x_var (pv 19) rfl)) (pe_bltn rfl (Y.free 3) hv_tuple rfl))) (by intro _; rfl))) (t_or1 (t_cmp T.ne n_ne b_ne (w_of (x_b1 v_len n_len rfl (Y.free 1) hv_len (w_of (x_var (pv 19) rfl)))) (w_of x_int) rfl)))) (c_one (s_up (s_ret x_bl) (owS_le (by decide)) (by decide))) (c_cut (o1 := owS []) c_nil (owS_le (by decide)) (by decide)))
  (c_one (s_up (s_ret (x_own1 T (c_law_judged Y) (by decide) rfl (xa_cons (x_var (pv 6) rfl) (xa_cons (x_kw (ks := ["reading", "row"]) (π := [1, 0]) T (c_marks_after Y) (by decide) rfl (fun _ _ _ _ _ h => h) (fun _ _ _ _ _ _ ws hl => match ws, hl with | [_, _], _ => rfl) (xk_cons (x_t1 v_tuple n_tuple rfl (Y.free 3) hv_tuple (w_of (x_var (pv 16) rfl))) (xk_cons (x_var (pv 5) rfl) xk_nil))) xa_nil)))) (owS_le (by decide)) (by decide))))))))))))))))))))))) (owS_le (by decide)) (by decide)))))))
theorem S_law : FnScope N_law ["script"] sc_law := ⟨rfl, rfl, rfl, by decide +kernel, rfl, by decide +kernel, by decide +kernel⟩
theorem law_is (Y : Fs P w K mg) : ∃ fd : FuncData, (∀ (s : Shared) (u : Value), BindsTo s fd ⟨[u], []⟩ [("script", u)]) ∧ ∀ base : Heap, FnOk P w K mg base (L2N.CX P w) 16 (He.ga K "law") fd ["script"] (spM K 1 m_law) :=
  law_ok (qual := "law") (params := defArgs st_law) (body := defBody st_law) (scope := sc_law) (f := He.ga K "law") (N := N_law) (m := b_law) (ow := ow_law) (Y.def_ 35) S_law rfl rfl (fun _ _ _ _ _ _ us hl => match us, hl with | [_], _ => rfl) (fun base cdv A outer s H E T => (ss_one (s_thru T fun T1 => (ss_one (s_ret (x_own1 T1 (c_law_holds Y) (by decide) rfl (xa_cons (x_var (pv 0) rfl) xa_nil)))))))
end
abbrev lo0 : List Str := ["is_integer", "is_number", "is_inputs", "as_tuple", "is_below", "is_word", "are_words", "CarryError", "InvalidNumber", "InvalidWords", "InvalidReading", "InvalidMachine", "InvalidRow", "InvalidMarks", "InvalidKind", "InvalidPrimes", "InvalidText", "InvalidCommand", "Undefined", "NothingToDo", "NothingKept", "is_reading", "MARKED", "mark_deeds", "first_marks", "mark_limits", "fits_limits", "is_marks", "spread_mark", "held_lanes"]
abbrev lo1 : List Str := ["carry_step", "turned_counts", "run_deeds", "mark_column", "place_step", "mark_step", "marks_after", "SIZES", "are_values", "is_count_deed", "is_deed", "counted_word", "deed_word", "Row", "_law_cell", "_law_mixed", "_law_draws", "_law_deed", "_law_tops", "_law_in_range", "_law_judged", "_law_other", "_law_alike", "_law_step_refused", "_law_reading_refused", "_law_holds"]
abbrev lo : List Str := lo0 ++ lo1
abbrev R : PySem.W.OpenRow := PySem.W.OpenLaw.row PySem.Challenge.rw_onlycarries_k13_marks_and_faults
abbrev hk : PySem.W.Hook := hookY 5 (fun K => noL K && mss.all fun m => m K) fa fns xfs tbs
def ob (s : PySem.W.SharedT) : AlY := obsYG 5 (fun K => noL K && mss.all fun m => m K) fa fns xfs tbs (HandSHeadRun.getT s)
theorem ob_eq (s : PySem.W.SharedT) : ob s = hk.obs s.abs := obsYG_eq (HandSHeadRun.getT_eq s)
end Py

namespace Py
open PySem PySem.Spec PyProof.Rows L2
theorem run0 (w : World) : HandSHeadRun.RunEq R (PySem.W.view R.prog [62]) hk ob 8000 lo (w.withFollow "special-get-raises" false) := by
  intro os
  kernel_rfl
theorem run1 (w : World) : HandSHeadRun.RunEq R (PySem.W.view R.prog [62]) hk ob 8000 lo (w.withFollow "special-get-raises" true) := by
  intro os
  kernel_rfl
theorem run (w : World) : HandSHeadRun.RunEq R (PySem.W.view R.prog [62]) hk ob 8000 lo w := PySem.W.byRow2 "special-get-raises" run0 run1 w
end Py
open PySem PySem.W PySem.Calls PyProof.Rows
theorem PySem.Challenge.cw_onlycarries_k13_marks_and_faults_holds : PySem.Challenge.rw_onlycarries_k13_marks_and_faults.Holds := by
  w_on; o_law
  refine HandSHeadRun.head_any (r := OpenLaw.row PySem.Challenge.rw_onlycarries_k13_marks_and_faults) (q := view (OpenLaw.row PySem.Challenge.rw_onlycarries_k13_marks_and_faults).prog [62]) (H := Py.hk) (ob := Py.ob) (M := 8000) (loose := Py.lo) (d := HandSHeadRun.topDef (OpenLaw.row PySem.Challenge.rw_onlycarries_k13_marks_and_faults).prog 62) (kwd := []) Py.ob_eq
    (by kernel_rfl) (fun s => by kernel_rfl) Py.run (by kernel_rfl) (by kernel_rfl) (by kernel_rfl) (by rfl) (by first | assumption | decide +kernel) (by decide +kernel) ⟨rfl, rfl, rfl, rfl, rfl, by decide +kernel⟩ ?hw ?hc
  case hw => w_witness2
  case hc =>
    refine Py.walk_ofW (l := PySem.Challenge.rw_onlycarries_k13_marks_and_faults) (n := 63) (k := 16) (x := "script") (CX := fun w => L2N.CX PySem.Challenge.pw_onlycarries_k13_marks_and_faults w) rfl (by decide) (by kernel_rfl) ⟨rfl, by decide, by decide⟩ ?F (fun _ _ _ _ _ z => Py.cx_none z)
    intro w mg fa h Y G hmg0
    obtain ⟨K, KX, c, m, xq⟩ := Y
    have hmg : mg ("law" : PySem.Str) = some (.ref fa) := by
      have e : (HandSHeadRun.topDef (OpenLaw.row PySem.Challenge.rw_onlycarries_k13_marks_and_faults).prog 62).name = ("law" : PySem.Str) := by kernel_rfl
      rw [← e]
      exact hmg0
    have YY : Py.Fs (PySem.Challenge.rw_onlycarries_k13_marks_and_faults).prog w K mg := ⟨⟨c, m, h, KX, G⟩, xq, by kernel_rfl, by kernel_rfl⟩
    have e2 := hmg.symm.trans (YY.glo 65)
    cases e2
    obtain ⟨fd, hb, hF⟩ := Py.law_is (P := (PySem.Challenge.rw_onlycarries_k13_marks_and_faults).prog) YY
    exact ⟨K, fd, _, KX, hb, fun H a ns hl _ hS => Py.sp_law YY.noL (Py.U.law_true ns hl) hS, fun base _ _ => hF base⟩
