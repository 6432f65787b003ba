import PyProof.Rows.All
import Wide.All
import OpenK.AllK
import Wide.FinOn
import HandS.ForMost
import HandS.WideBits
import HandS.Exc
import HandS.TryOnly
import HandS.ExcOwn
import HandS.WordsExc
import HandS.WordsList
import HandS.IsInst
import HandS.ExcCtx
import HandS.Hot
import HandS.HotCalls
import HandS.ExcIs
import HandS.ExcField
import HandS.Defaults
import HandS.Flow
import HandS.Style
import HandS.TupAny
import HandS.HeadHook1
import HandS.HeadHook2
import HandS.Dict
import KE.KeyNested
import HandS.Small
import HandS.WordsDict
import KE.KDictKeyed
import PyProof.Rows.SeqRoads
import HandS.CallSlots
import KE.GoesEnum
import HandS.HeadEnd
import HandS.HeadHook3
import HandS.Head3
import HandS.Zip
import HandS.ExcInit
import HandS.Nested
import KE.KExcSuper
import KE.KExcIs
import HandS.TupMul
import HandS.Conv
import HandS.Star
import KE.KDictDisplayH
import OpenK.KOps
import KE.KDictWalk
import KE.KDictZip
import KE.GoesMore
import KE.KStar
import HandS.ExcValue
import HandS.SlotsOwn
import HandS.Head0
import HandS.Head1
import HandS.Head2
import KE.BitLaws
import PySem.Challenge.RW_onlycarries_k08_whole_alike_machines
set_option Elab.async false
set_option linter.all false
set_option maxRecDepth 100000
set_option maxHeartbeats 0
/-! Plain data of a small Python, and what its expressions, statements and defs compute: total Lean functions, no program in sight. -/
namespace Py
open PySem L2
inductive D where
  | non | bl (b : Bool) | int (i : Int) | str (s : String)
  | tup (xs : List D) | lst (xs : List D) | dic (t : Bool) (kvs : List (D × D)) | ins (c : String) (fs : List (String × D))
  deriving Inhabited
inductive Res (α : Type) where
  | ok (a : α) | exc (c : String) (fs : List (String × D)) | stuck
@[reducible] def Res.bind {α β : Type} (r : Res α) (f : α → Res β) : Res β := match r with
  | .ok a => f a | .exc c fs => .exc c fs | .stuck => .stuck
instance : Monad Res := { pure := Res.ok, bind := Res.bind }
@[simp] theorem bind_ok {α β : Type} (a : α) (f : α → Res β) : (Res.ok a >>= f) = f a := rfl
@[simp] theorem bind_exc {α β : Type} (c : String) (fs) (f : α → Res β) : ((Res.exc c fs : Res α) >>= f) = .exc c fs := rfl
@[simp] theorem bind_stuck {α β : Type} (f : α → Res β) : ((Res.stuck : Res α) >>= f) = .stuck := rfl
@[simp] theorem pure_ok {α : Type} (a : α) : (pure a : Res α) = .ok a := rfl
def noexc {α : Type} : Res α → Res α
  | .ok a => .ok a | .exc _ _ => .stuck | .stuck => .stuck
@[simp] theorem noexc_ok {α : Type} (a : α) : noexc (.ok a : Res α) = .ok a := rfl
def SZ : Nat := 16777216
abbrev Env := List (Option D)
abbrev EM := Env → Res D
abbrev TM := Env → Res Bool
abbrev AM := Env → Res (List D)
inductive Fl where
  | next (e : Env) | ret (d : D) | brk (e : Env) | cnt (e : Env)
abbrev SM := Env → Res Fl
/-! ### data -/
def chk (n : Nat) (d : D) : Res D := if n ≤ SZ then .ok d else .stuck
theorem chk_ok {n : Nat} {d : D} (h : n ≤ SZ) : chk n d = .ok d := if_pos h
/-- no dict or instance within, at most n deep: == walks it -/
def pl : Nat → D → Bool
  | _, .non => true
  | _, .bl _ => true
  | _, .int _ => true
  | _, .str _ => true
  | n + 1, .tup xs => xs.all (pl n)
  | n + 1, .lst xs => xs.all (pl n)
  | _, _ => false
def plain (d : D) : Bool := pl 64 d
/-- no object but a text -/
def flatD : D → Bool
  | .non => true
  | .bl _ => true
  | .int _ => true
  | .str _ => true
  | _ => false
def b2i (b : Bool) : Int := if b then 1 else 0
/-- == of plain data -/
def eqv : D → D → Bool
  | .non, .non => true
  | .bl a, .bl b => a == b
  | .bl a, .int j => b2i a == j
  | .int i, .bl b => i == b2i b
  | .int i, .int j => i == j
  | .str a, .str b => a == b
  | .tup xs, .tup ys => eqvL xs ys
  | .lst xs, .lst ys => eqvL xs ys
  | _, _ => false
where eqvL : List D → List D → Bool
  | [], [] => true
  | x :: xs, y :: ys => eqv x y && eqvL xs ys
  | _, _ => false
inductive Ty where
  | non | bl | int | str | tup | lst | dic | cls (c : String)
  deriving DecidableEq
def isI (t : Ty) : D → Bool
  | .non => decide (t = .non)
  | .bl _ => decide (t = .bl) || decide (t = .int)
  | .int _ => decide (t = .int)
  | .str _ => decide (t = .str)
  | .tup _ => decide (t = .tup)
  | .lst _ => decide (t = .lst)
  | .dic _ _ => decide (t = .dic)
  | .ins c _ => decide (t = .cls c)
/-! ### operators -/
def oadd : D → D → Res D
  | .int i, .int j => .ok (.int (i + j))
  | .str a, .str b => if a.length + b.length ≤ SZ then .ok (.str (a ++ b)) else .stuck
  | .tup a, .tup b => if a.length + b.length ≤ SZ then .ok (.tup (a ++ b)) else .stuck
  | .lst a, .lst b => if a.length + b.length ≤ SZ then .ok (.lst (a ++ b)) else .stuck
  | _, _ => .stuck
def osub : D → D → Res D
  | .int i, .int j => .ok (.int (i - j))
  | _, _ => .stuck
def B64 : Nat := 18446744073709551616
def omul : D → D → Res D
  | .int i, .int j => if i.natAbs < B64 ∨ j.natAbs < B64 then .ok (.int (i * j)) else .stuck
  | _, _ => .stuck
/-- a list so many times -/
def olrep : D → D → Res D
  | .lst xs, .int k => if xs.length ≤ 1000 ∧ k.natAbs ≤ 10000 then .ok (.lst (List.replicate k.toNat xs).flatten) else .stuck
  | _, _ => .stuck
/-- a tuple so many times -/
def otrep : D → D → Res D
  | .tup xs, .int k => if xs.length ≤ 1000 ∧ k.natAbs ≤ 1000 then .ok (.tup (List.replicate k.toNat xs).flatten) else .stuck
  | _, _ => .stuck
def ofdiv : D → D → Res D
  | .int i, .int j => if 0 < j ∧ j < 1073741824 then .ok (.int (i / j)) else .stuck
  | _, _ => .stuck
def omod : D → D → Res D
  | .int i, .int j => if 0 < j then .ok (.int (i % j)) else .stuck
  | _, _ => .stuck
def opow : D → D → Res D
  | .int i, .int j => if 0 ≤ j ∧ j ≤ 1000000 ∧ i.natAbs < 18446744073709551616 then .ok (.int (i ^ j.toNat)) else .stuck
  | _, _ => .stuck
def oshl : D → D → Res D
  | .int i, .int j => if 0 ≤ j ∧ (Builtin.Int.intBits i : Int) + j ≤ 134217728 then .ok (.int (i * 2 ^ j.toNat)) else .stuck
  | _, _ => .stuck
def oshr : D → D → Res D
  | .int i, .int j => if 0 ≤ j then .ok (.int (i / 2 ^ j.toNat)) else .stuck
  | _, _ => .stuck
def oand : D → D → Res D
  | .int i, .int j => .ok (.int (Builtin.bitAnd i j))
  | _, _ => .stuck
def oneg : D → Res D
  | .int i => .ok (.int (-i))
  | _ => .stuck
def opt : Option D → Res D
  | some d => .ok d
  | none => .stuck
def tyOf : D → Ty
  | .non => .non | .bl _ => .bl | .int _ => .int | .str _ => .str | .tup _ => .tup | .lst _ => .lst | .dic _ _ => .dic | .ins c _ => .cls c
/-- an instance's class is among these, so is a class that is asked for -/
def inCs (cs : List String) : Ty → Bool
  | .cls c => cs.contains c
  | .dic => false
  | _ => true
def oisi (cs : List String) (ts : List Ty) (d : D) : Res D := if inCs cs (tyOf d) && ts.all (fun t => inCs cs t && decide (t ≠ .non)) then .ok (.bl (ts.any fun t => isI t d)) else .stuck
def oattr (cs : List String) (f : String) : D → Res D
  | .ins c fs => if cs.contains c then opt (fs.lookup f) else .stuck
  | _ => .stuck
/-- x += y of numbers -/
def oiadd : D → D → Res D
  | .int i, .int j => .ok (.int (i + j))
  | _, _ => .stuck
def olt : D → D → Res D
  | .int i, .int j => .ok (.bl (decide (i < j)))
  | _, _ => .stuck
def ole : D → D → Res D
  | .int i, .int j => .ok (.bl (decide (i ≤ j)))
  | _, _ => .stuck
def ogt : D → D → Res D
  | .int i, .int j => .ok (.bl (decide (j < i)))
  | _, _ => .stuck
def oge : D → D → Res D
  | .int i, .int j => .ok (.bl (decide (j ≤ i)))
  | _, _ => .stuck
def oeq (x y : D) : Res D := if plain x && plain y then .ok (.bl (eqv x y)) else .stuck
def one (x y : D) : Res D := if plain x && plain y then .ok (.bl (!eqv x y)) else .stuck
/-- x in ys -/
def mem (x : D) : List D → Bool
  | [] => false
  | y :: r => eqv y x || mem x r
/-- numbers, None and tuples of such, at most n deep -/
def hk : Nat → D → Bool
  | _, .non => true
  | _, .bl _ => true
  | _, .int _ => true
  | n + 1, .tup xs => xs.all (hk n)
  | _, _ => false
/-- a key of a dict; t: its keys are tuples -/
def keyOk : Bool → D → Bool
  | false, .int _ => true
  | false, .str _ => true
  | true, .tup xs => hk 8 (.tup xs)
  | _, _ => false
def find (k : D) : List (D × D) → Option D
  | [] => none
  | (a, v) :: r => if eqv a k then some v else find k r
/-- d[k] = v -/
def putD (k v : D) : List (D × D) → List (D × D)
  | [] => [(k, v)]
  | (a, x) :: r => if eqv a k then (a, v) :: r else (a, x) :: putD k v r
def oin : D → D → Res D
  | x, .lst ys => if flatD x && ys.all flatD then .ok (.bl (mem x ys)) else .stuck
  | x, .tup ys => if flatD x && ys.all flatD then .ok (.bl (mem x ys)) else .stuck
  | x, .dic t kvs => if keyOk t x then .ok (.bl (find x kvs).isSome) else .stuck
  | _, _ => .stuck
def onotin : D → D → Res D
  | x, .lst ys => if flatD x && ys.all flatD then .ok (.bl (!mem x ys)) else .stuck
  | x, .tup ys => if flatD x && ys.all flatD then .ok (.bl (!mem x ys)) else .stuck
  | x, .dic t kvs => if keyOk t x then .ok (.bl (!(find x kvs).isSome)) else .stuck
  | _, _ => .stuck
def isNon : D → Bool
  | .non => true
  | _ => false
def oisN (x : D) : Res D := .ok (.bl (isNon x))
def onotN (x : D) : Res D := .ok (.bl (!isNon x))
def truthy : D → Res Bool
  | .non => .ok false
  | .bl b => .ok b
  | .int i => .ok (i != 0)
  | .str s => if s.length ≤ SZ then .ok (s.length != 0) else .stuck
  | .tup xs => .ok (!xs.isEmpty)
  | .lst xs => .ok (!xs.isEmpty)
  | _ => .stuck
def onb : D → Res D
  | .bl k => .ok (.bl (!k))
  | _ => .stuck
/-! ### subscripts -/
def oidx : D → D → Res D
  | .lst xs, .int i => opt (atI xs i)
  | .tup xs, .int i => opt (atI xs i)
  | .str s, .int i => if s.length ≤ SZ then opt ((atI s.toList i).map fun c => .str (String.ofList [c])) else .stuck
  | .dic t kvs, k => if keyOk t k then opt (find k kvs) else .stuck
  | _, _ => .stuck
/-- the items from lo up to hi -/
def cut {α : Type} (xs : List α) (lo hi : Option Int) : List α := (xs.drop (HT.sIx xs.length 0 lo)).take (HT.sIx xs.length xs.length hi - HT.sIx xs.length 0 lo)
def oslc : D → Option Int → Option Int → Res D
  | .lst xs, lo, hi => .ok (.lst (cut xs lo hi))
  | .tup xs, lo, hi => .ok (.tup (cut xs lo hi))
  | .str s, lo, hi => if s.length ≤ SZ then .ok (.str (String.ofList (cut s.toList lo hi))) else .stuck
  | _, _, _ => .stuck
def orev : D → Res D
  | .lst xs => .ok (.lst xs.reverse)
  | _ => .stuck
/-! ### a table of the module: texts to numbers -/
/-! ### built-in calls -/
def blen : D → Res D
  | .lst xs => .ok (.int xs.length)
  | .tup xs => .ok (.int xs.length)
  | .str s => if s.length ≤ SZ then .ok (.int s.length) else .stuck
  | .dic _ kvs => .ok (.int kvs.length)
  | _ => .stuck
def bint : D → Res D
  | .int i => .ok (.int i)
  | .bl b => .ok (.int (b2i b))
  | _ => .stuck
def btuple : D → Res D
  | .lst xs => .ok (.tup xs)
  | .tup xs => .ok (.tup xs)
  | _ => .stuck
def blist : D → Res D
  | .lst xs => .ok (.lst xs)
  | .tup xs => .ok (.lst xs)
  | _ => .stuck
def intsOf : List D → Option (List Int)
  | [] => some []
  | .int i :: r => (intsOf r).map (i :: ·)
  | _ :: _ => none
def boolsOf : List D → Option (List Bool)
  | [] => some []
  | .bl i :: r => (boolsOf r).map (i :: ·)
  | _ :: _ => none
def bsum : D → Res D
  | .lst xs => match intsOf xs with | some is => .ok (.int is.sum) | none => .stuck
  | _ => .stuck
def ball : D → Res D
  | .lst xs => match boolsOf xs with | some bs => .ok (.bl (bs.all id)) | none => .stuck
  | _ => .stuck
def bmin2 : D → D → Res D
  | .int i, .int j => .ok (.int (if j < i then j else i))
  | _, _ => .stuck
/-- max and min of a list of numbers -/
def bmaxL : D → Res D
  | .lst xs => match intsOf xs with | some (i :: is) => .ok (.int (is.foldl (fun a b => if b > a then b else a) i)) | _ => .stuck
  | _ => .stuck
def bbits : D → Res D
  | .int i => .ok (.int (Builtin.Int.intBits i : Nat))
  | _ => .stuck
/-! ### expressions -/
def var (i : Nat) : EM := fun e => match e[i]? with | some (some d) => .ok d | _ => .stuck
def cst (d : D) : EM := fun _ => .ok d
def un (f : D → Res D) (a : EM) : EM := fun e => a e >>= f
def bin (f : D → D → Res D) (a b : EM) : EM := fun e => a e >>= fun x => b e >>= fun y => f x y
def argN : AM := fun _ => .ok []
def argC (a : EM) (r : AM) : AM := fun e => a e >>= fun x => r e >>= fun xs => .ok (x :: xs)
def tupE (a : AM) : EM := fun e => a e >>= fun xs => chk xs.length (.tup xs)
def lstE (a : AM) : EM := fun e => a e >>= fun xs => chk xs.length (.lst xs)
/-- {} and {k: v} -/
def dic0 (t : Bool) : EM := fun _ => .ok (.dic t [])
def dic1 (t : Bool) (a b : EM) : EM := fun e => a e >>= fun k => b e >>= fun v => if keyOk t k then .ok (.dic t [(k, v)]) else .stuck
/-- x and y, x or y as values, x a truth -/
def andE (a b : EM) : EM := fun e => a e >>= fun x => match x with | .bl true => b e | .bl false => .ok (.bl false) | _ => .stuck
def orE (a b : EM) : EM := fun e => a e >>= fun x => match x with | .bl false => b e | .bl true => .ok (.bl true) | _ => .stuck
/-- a < b < c -/
def chain (f g : D → D → Res D) (a b c : EM) : EM := fun e => a e >>= fun x => b e >>= fun y => f x y >>= fun z => match z with
  | .bl true => c e >>= fun u => g y u
  | .bl false => .ok (.bl false)
  | _ => .stuck
def tst (a : EM) : TM := fun e => a e >>= truthy
def andT (a b : TM) : TM := fun e => a e >>= fun x => if x then b e else .ok false
def orT (a b : TM) : TM := fun e => a e >>= fun x => if x then .ok true else b e
def notT (a : TM) : TM := fun e => a e >>= fun x => .ok (!x)
def ifE (t : TM) (a b : EM) : EM := fun e => t e >>= fun x => if x then a e else b e
def slc (a : EM) (lo hi : Option EM) : EM := fun e => a e >>= fun x => bnd lo e >>= fun i => bnd hi e >>= fun j => oslc x i j
where bnd : Option EM → Env → Res (Option Int)
  | none, _ => .ok none
  | some m, e => m e >>= fun d => match d with | .int i => .ok (some i) | _ => .stuck
def call (f : List D → Res D) (a : AM) : EM := fun e => a e >>= f
/-- o.m(..), o of class c -/
def callM (c m : String) (f : List D → Res D) (a : EM) (am : AM) : EM := fun e => a e >>= fun o => match o with
  | .ins c' fs => if c' = c ∧ (fs.lookup m).isNone = true then am e >>= fun ds => f (o :: ds) else .stuck
  | _ => .stuck
/-! what is walked -/
abbrev IM := Env → Res (List D)
def iseq (a : EM) : IM := fun e => a e >>= fun x => match x with | .lst xs => .ok xs | .tup xs => .ok xs | _ => .stuck
def B62 : Nat := 4611686018427387904
def rngL (lo hi : Int) : List D := (List.range (hi - lo).toNat).map fun i => .int (lo + (i : Nat))
def irng1 (a : EM) : IM := fun e => a e >>= fun x => match x with
  | .int n => if n.natAbs < B62 then .ok (rngL 0 n) else .stuck
  | _ => .stuck
def enumL (n : Nat) : List D → List D
  | [] => []
  | d :: r => .tup [.int n, d] :: enumL (n + 1) r
def ienum (a : EM) : IM := fun e => iseq a e >>= fun xs => .ok (enumL 0 xs)
def seqOf : D → Option (Bool × List D)
  | .lst xs => some (false, xs)
  | .tup xs => some (true, xs)
  | _ => none
def ozip (a b : D) : Res (List D) := match seqOf a, seqOf b with
  | some (_, xs), some (_, ys) => .ok ((xs.zip ys).map fun p => .tup [p.1, p.2])
  | _, _ => .stuck
def izip (a b : EM) : IM := fun e => a e >>= fun x => b e >>= fun y => ozip x y
/-- enumerate(zip(..)) -/
def ienumM (it : IM) : IM := fun e => it e >>= fun xs => .ok (enumL 0 xs)
/-- list(range(..)) -/
def lrngE (it : IM) : EM := fun e => it e >>= fun xs => if xs.length ≤ 1000000 then .ok (.lst xs) else .stuck
/-- .., *a, .. -/
def argS (a : EM) (r : AM) : AM := fun e => a e >>= fun x => match seqOf x with
  | some (_, xs) => r e >>= fun ys => .ok (xs ++ ys)
  | none => .stuck
/-! targets -/
def lift {α : Type} : Option α → Res α
  | some a => .ok a
  | none => .stuck
@[simp] theorem lift_some {α : Type} (a : α) : lift (some a) = .ok a := rfl
@[simp] theorem lift_none {α : Type} : lift (none : Option α) = .stuck := rfl
abbrev GM := D → Env → Option Env
def gnm (i : Nat) : GM := fun d e => some (e.set i (some d))
def gtupL : List GM → List D → Env → Option Env
  | [], [], e => some e
  | g :: gs, d :: ds, e => (g d e).bind (gtupL gs ds)
  | _, _, _ => none
def gtup (gs : List GM) : GM := fun d e => match d with | .tup xs => gtupL gs xs e | _ => none
/-! comprehensions -/
def wipe (e : Env) : List Nat → Env
  | [] => e
  | i :: r => (wipe e r).set i none
def compL (f : D → Res (Option D)) : List D → Res (List D)
  | [] => .ok []
  | x :: xs => f x >>= fun o => compL f xs >>= fun ys => .ok (match o with | some y => y :: ys | none => ys)
def yes : TM := fun _ => .ok true
def compF (vs : List Nat) (g : GM) (t : TM) (elt : EM) (e : Env) (x : D) : Res (Option D) :=
  lift (g x (wipe e vs)) >>= fun e1 => t e1 >>= fun b => if b then elt e1 >>= fun y => .ok (some y) else .ok none
def lcE (it : IM) (vs : List Nat) (g : GM) (t : TM) (elt : EM) : EM := fun e => it e >>= fun xs =>
  noexc (compL (compF vs g t elt e) xs) >>= fun ys => chk xs.length (.lst ys)
/-! ### statements -/
def seq (a b : SM) : SM := fun e => a e >>= fun f => match f with | .next e' => b e' | r => .ok r
def skip : SM := fun e => .ok (.next e)
def asg (g : GM) (m : EM) : SM := fun e => m e >>= fun d => lift (g d e) >>= fun e' => .ok (.next e')
def aug (i : Nat) (f : D → D → Res D) (m : EM) : SM := fun e => var i e >>= fun x => m e >>= fun y => f x y >>= fun z => .ok (.next (e.set i (some z)))
def drop (m : EM) : SM := fun e => m e >>= fun _ => .ok (.next e)
def ret (m : EM) : SM := fun e => m e >>= fun d => .ok (.ret d)
def retN : SM := fun _ => .ok (.ret .non)
def ite (t : TM) (a b : SM) : SM := fun e => t e >>= fun x => if x then a e else b e
def brk : SM := fun e => .ok (.brk e)
def cnt : SM := fun e => .ok (.cnt e)
def forL (body : D → Env → Res Fl) : List D → Env → Res Fl
  | [], e => .ok (.next e)
  | x :: xs, e => match body x e with
    | .ok (.next e') => forL body xs e'
    | .ok (.cnt e') => forL body xs e'
    | .ok (.brk e') => .ok (.next e')
    | .ok (.ret d) => .ok (.ret d)
    | .exc c fs => .exc c fs
    | .stuck => .stuck
def forB (g : GM) (body : SM) (x : D) (e : Env) : Res Fl := lift (g x e) >>= body
def for_ (it : IM) (g : GM) (body : SM) : SM := fun e => it e >>= fun xs => forL (forB g body) xs e
def FUEL : Nat := 1000000000000
def whileL (t : TM) (body : SM) : Nat → Env → Res Fl
  | 0, _ => .stuck
  | n + 1, e => t e >>= fun b => if b then (match body e with
      | .ok (.next e') => whileL t body n e'
      | .ok (.cnt e') => whileL t body n e'
      | .ok (.brk e') => .ok (.next e')
      | .ok (.ret d) => .ok (.ret d)
      | .exc c fs => .exc c fs
      | .stuck => .stuck) else .ok (.next e)
def while_ (t : TM) (body : SM) : SM := whileL t body FUEL
/-- a name's own list grows -/
def app (i : Nat) (m : EM) : SM := fun e => var i e >>= fun l => match l with
  | .lst xs => m e >>= fun d => if xs.length < SZ then .ok (.next (e.set i (some (.lst (xs ++ [d]))))) else .stuck
  | _ => .stuck
/-- xs[j] = v of a name's own list or dict -/
def setL (i : Nat) (j m : EM) : SM := fun e => var i e >>= fun l => match l with
  | .lst xs => m e >>= fun d => j e >>= fun k => match k with
    | .int z => match ixN xs.length z with
      | some n => .ok (.next (e.set i (some (.lst (xs.set n d)))))
      | none => .stuck
    | _ => .stuck
  | .dic t kvs => m e >>= fun d => j e >>= fun k => if keyOk t k && decide (kvs.length < SZ) then .ok (.next (e.set i (some (.dic t (putD k d kvs))))) else .stuck
  | _ => .stuck
/-- x.extend(y) of a name's own list -/
def ext (i : Nat) (m : EM) : SM := fun e => var i e >>= fun l => match l with
  | .lst xs => m e >>= fun d => match d with
    | .lst ys => if xs.length + ys.length ≤ SZ then .ok (.next (e.set i (some (.lst (xs ++ ys))))) else .stuck
    | _ => .stuck
  | _ => .stuck
def putF (f : String) (d : D) : List (String × D) → List (String × D)
  | [] => [(f, d)]
  | (g, x) :: r => if g = f then (f, d) :: r else (g, x) :: putF f d r
/-- self.f = v in an __init__ -/
def setF (i : Nat) (cs : List String) (f : String) (m : EM) : SM := fun e => var i e >>= fun o => match o with
  | .ins c fs => if cs.contains c ∧ fs.length < 1000 then m e >>= fun d => .ok (.next (e.set i (some (.ins c (putF f d fs))))) else .stuck
  | _ => .stuck
/-- raise C(..) -/
def rais (c : String) (ns : List String) (a : AM) : SM := fun e => a e >>= fun ds => if ds.length = ns.length then .exc c (ns.zip ds).reverse else .stuck
def thru (m : SM) : SM := fun e => noexc (m e)
/-! ### errors that are caught -/
/-! ### defs -/
def done : Res Fl → Res D
  | .ok (.next _) => .ok .non
  | .ok (.ret d) => .ok d
  | .ok (.brk _) => .stuck
  | .ok (.cnt _) => .stuck
  | .exc c fs => .exc c fs
  | .stuck => .stuck
/-- a def of p parameters and n names -/
def fn (p n : Nat) (body : SM) (ds : List D) : Res D := if ds.length = p then done (body (ds.map some ++ List.replicate (n - p) none)) else .stuck
def made (p n : Nat) (cls : String) (body : SM) (ds : List D) : Res D := if ds.length + 1 = p then
  match body ((some (.ins cls []) :: ds.map some) ++ List.replicate (n - p) none) with
  | .ok (.next (some (.ins c fs) :: _)) => .ok (.ins c fs)
  | .exc c fs => .exc c fs
  | _ => .stuck else .stuck
end Py
namespace Py
open PySem PySem.Spec PyProof.Rows L2
open He (Fa DefD Tab FnW)
open He
abbrev Frag := PySem.W.Frag
def ca (K : Frag) (c : String) : Addr := He.ga K (Str.ofString c)
def tyNames : List String := ["NoneType", "bool", "int", "str", "tuple", "list", "dict"]
def kitB (K : Frag) (cs : List String) : Bool :=
  cs.all fun c => (He.Fa.cls (Str.ofString c)).ok K
    && (decide (PySem.W.findIn K (.ref (ca K c)) "__class__" = some (some (.builtin "object.__class__")))
    && (decide (PySem.W.specialIn K (.builtin "object.__class__") "__get__" = some (some (.builtin "getset_descriptor.__get__")))
    && (decide (PySem.W.takesIn K (.builtin "object.__class__") = some true)
    && (decide (PySem.W.mroIn K (ca K c) (.type "object") = some true)
    && (cs.all (fun d => decide (PySem.W.kitOne K (.ref (ca K c)) (.ref (ca K d)) = some (decide (c = d))))
    && tyNames.all fun T => decide (PySem.W.kitOne K (.ref (ca K c)) (.type T) = some false) && decide (PySem.W.kitOne K (.type T) (.ref (ca K c)) = some false))))))
def notList (o : Obj) : Bool := match o.cls with
  | .type c => !(decide (c = "list"))
  | _ => true
def noL (K : Frag) : Bool := K.all fun q => notList q.2
def attB (cs : List String) (f : String) (K : Frag) : Bool := cs.all fun c => (Fa.cls (Str.ofString c)).ok K && (Fa.noat (Str.ofString c) (Str.ofString f)).ok K
def kitC (cs : List String) (K : Frag) : Bool := kitB K cs
def fnWx (K : Frag) (p : Str × Option Str) : FnW := match K.lookup (He.fAd K p) with
  | some ⟨_, _, .func fd, _⟩ => some (fd.name, fd.qualname, fd.params, fd.body, fd.scope, fd.globals, [], fd.builtins)
  | _ => none
def cloB (file : Str) (c : String) (q : Str) (K : Frag) : Bool := match K.lookup (He.ma K (ca K c) "__init__") with
  | some ⟨_, _, .func fd, _⟩ => (match fd.code, fd.closure with
    | .ref cda, [(y, cc)] => decide (y = ("__class__" : Str)) && (decide (fd.defaults = .none) && (PySem.W.codeIn K (.ref cda) q &&
      ((match K.lookup cc with | some ⟨_, _, .cell (some (.ref D)), _⟩ => decide (D = ca K c) | _ => false) &&
        (match K.lookup cda with | some ⟨_, _, .fields vs, _⟩ => (match (vs[2]? : Option Value) with | some (.str z _) => decide (z = file) | _ => false) | _ => false))))
    | _, _ => false)
  | _ => false
def oexB (c : String) (K : Frag) : Bool := match K.lookup (ca K c) with
  | some ⟨.type "type", _, .cls cd, sl⟩ => (match cd.mro, sl.toList with
    | .ref C' :: bm, [_, _, _, _, some (.builtin n), _] => decide (C' = ca K c) && (decide (n = "ValueError.__new__") && (cd.hasDict && (!cd.hasDel && PySem.HandSPX.refsVE bm)))
    | _, _ => false)
  | _ => false
def errB (file : Str) (c : String) (q : Str) (fs : List String) (K : Frag) : Bool := cloB file c q K && (oexB c K &&
  (decide (PySem.W.findIn K (.ref (ca K c)) "__setattr__" = some (some (.builtin "object.__setattr__"))) && (decide (PySem.W.subIn K (.ref (ca K c)) (.type "BaseException") = some true) &&
  (decide (PySem.W.typeIn K (.ref (ca K c)) = some (.type "type")) && (PySem.W.keepIn K (.ref (ca K c)) &&
  (decide (PySem.W.ks_superIn K (ca K c) (ca K c) "__init__" = some (some (.builtin "ValueError.__init__"))) && (decide (PySem.W.subIn K (.ref (ca K c)) (.type "ValueError") = some true) &&
  (decide (PySem.W.mroIn K (ca K c) (.ref (ca K c)) = some true) && (decide (PySem.W.nsIn K cStatics "thirdparty.any" = some none) &&
  (decide (PySem.W.findIn K (.ref (ca K c)) "__init__" = some (some (.ref (He.ma K (ca K c) "__init__")))) && (decide (PySem.W.typeIn K (.ref (He.ma K (ca K c) "__init__")) = some (.type "function")) &&
  fs.all fun f => decide (PySem.W.findIn K (.ref (ca K c)) (Str.ofString f) = some none))))))))))))
abbrev AlY : Type := AlT × Bool × List FnW
def obsY (more : Frag → Bool) (fa : List Fa) (fn xf : List DefD) (ts : List Tab) (K : Frag) : AlY := (obsT fa fn ts K, more K, xf.map fun d => fnWx K d.at_)
def valY (fn xf : List DefD) (ts : List Tab) (w : World) : AlY := (valT fn ts w, true, xf.map DefD.val)
def obsYG (n : Nat) (more : Frag → Bool) (fa : List Fa) (fn xf : List DefD) (ts : List Tab) (g : Addr → Option Obj) : AlY := obsY more fa fn xf ts (frG g (cStatics :: asD g n))
def hookY (n : Nat) (more : Frag → Bool) (fa : List Fa) (fn xf : List DefD) (ts : List Tab) : PySem.W.Hook where
  α := AlY
  obs := fun s => obsYG n more fa fn xf ts s.heap.get?
  val := fun w => valY fn xf ts w
  says := fun w h => ∃ K : PySem.W.Frag, K.In h ∧ SaysT fa fn ts w K ∧ more K = true ∧ (xf.map fun d => fnWx K d.at_) = xf.map DefD.val
  of := fun w s e => by
    have e1 : obsY more fa fn xf ts (frG s.heap.get? (cStatics :: asD s.heap.get? n)) = valY fn xf ts w := e
    unfold obsY valY at e1
    obtain ⟨e2, e3⟩ := Prod.mk.inj e1
    obtain ⟨e4, e5⟩ := Prod.mk.inj e3
    exact ⟨_, frG_in, e2, e4, e5⟩
  keeps := fun _ _ _ ⟨K, hK, c, m⟩ k => ⟨K, PySem.W.Frag.In.keeps hK k, c, m⟩
end Py
namespace Py
open PySem PySem.Spec PyProof.Rows L2
abbrev CS : List String := ["Machine"]
def top (i : Nat) : Stmt := PySem.Challenge.pw_onlycarries_k08_whole_alike_machines.main.body.getD i (.Pass ⟨0, 0, 0, 0⟩)
abbrev st_Machine_eq : Stmt := inClass (top 23) 1
abbrev sc_Machine_eq : Scope := defScope st_Machine_eq
abbrev N_Machine_eq : List Str := ["self", "other"]
abbrev d_Machine_eq : He.DefD := ⟨("Machine", some "__eq__"), "__eq__", "Machine.__eq__", defArgs st_Machine_eq, defBody st_Machine_eq, sc_Machine_eq, [], []⟩
abbrev st_is_integer : Stmt := top 2
abbrev sc_is_integer : Scope := defScope st_is_integer
abbrev N_is_integer : List Str := ["value"]
abbrev d_is_integer : He.DefD := ⟨("is_integer", none), "is_integer", "is_integer", defArgs st_is_integer, defBody st_is_integer, sc_is_integer, [], []⟩
abbrev st_is_inputs : Stmt := top 4
abbrev sc_is_inputs : Scope := defScope st_is_inputs
abbrev N_is_inputs : List Str := ["value"]
abbrev d_is_inputs : He.DefD := ⟨("is_inputs", none), "is_inputs", "is_inputs", defArgs st_is_inputs, defBody st_is_inputs, sc_is_inputs, [], []⟩
abbrev st_as_tuple : Stmt := top 5
abbrev sc_as_tuple : Scope := defScope st_as_tuple
abbrev N_as_tuple : List Str := ["value"]
abbrev d_as_tuple : He.DefD := ⟨("as_tuple", none), "as_tuple", "as_tuple", defArgs st_as_tuple, defBody st_as_tuple, sc_as_tuple, [], []⟩
abbrev st_is_below : Stmt := top 6
abbrev sc_is_below : Scope := defScope st_is_below
abbrev N_is_below : List Str := ["value", "limit"]
abbrev d_is_below : He.DefD := ⟨("is_below", none), "is_below", "is_below", defArgs st_is_below, defBody st_is_below, sc_is_below, [], []⟩
abbrev st_is_line : Stmt := top 20
abbrev sc_is_line : Scope := defScope st_is_line
abbrev N_is_line : List Str := ["value", "many", "limit", "member"]
abbrev d_is_line : He.DefD := ⟨("is_line", none), "is_line", "is_line", defArgs st_is_line, defBody st_is_line, sc_is_line, [], []⟩
abbrev st_right_nexts : Stmt := top 21
abbrev sc_right_nexts : Scope := defScope st_right_nexts
abbrev N_right_nexts : List Str := ["value", "letters", "lines", "state", "line"]
abbrev d_right_nexts : He.DefD := ⟨("right_nexts", none), "right_nexts", "right_nexts", defArgs st_right_nexts, defBody st_right_nexts, sc_right_nexts, [], []⟩
abbrev st_right_outs : Stmt := top 22
abbrev sc_right_outs : Scope := defScope st_right_outs
abbrev N_right_outs : List Str := ["value", "letters", "states", "lines", "shared", "state"]
abbrev d_right_outs : He.DefD := ⟨("right_outs", none), "right_outs", "right_outs", defArgs st_right_outs, defBody st_right_outs, sc_right_outs, [], []⟩
abbrev st_Machine_init : Stmt := inClass (top 23) 0
abbrev sc_Machine_init : Scope := defScope st_Machine_init
abbrev N_Machine_init : List Str := ["self", "inputs", "nexts", "outs", "letters"]
abbrev d_Machine_init : He.DefD := ⟨("Machine", some "__init__"), "__init__", "Machine.__init__", defArgs st_Machine_init, defBody st_Machine_init, sc_Machine_init, [], []⟩
abbrev st__law_cell : Stmt := top 34
abbrev sc__law_cell : Scope := defScope st__law_cell
abbrev N__law_cell : List Str := ["script", "k"]
abbrev d__law_cell : He.DefD := ⟨("_law_cell", none), "_law_cell", "_law_cell", defArgs st__law_cell, defBody st__law_cell, sc__law_cell, [], []⟩
abbrev st__law_mixed : Stmt := top 35
abbrev sc__law_mixed : Scope := defScope st__law_mixed
abbrev N__law_mixed : List Str := ["cell", "k", "once", "twice"]
abbrev d__law_mixed : He.DefD := ⟨("_law_mixed", none), "_law_mixed", "_law_mixed", defArgs st__law_mixed, defBody st__law_mixed, sc__law_mixed, [], []⟩
abbrev st__law_draws : Stmt := top 36
abbrev sc__law_draws : Scope := defScope st__law_draws
abbrev N__law_draws : List Str := ["cell", "sizes", "found", "left", "k"]
abbrev d__law_draws : He.DefD := ⟨("_law_draws", none), "_law_draws", "_law_draws", defArgs st__law_draws, defBody st__law_draws, sc__law_draws, [], []⟩
abbrev st__law_first : Stmt := top 44
abbrev sc__law_first : Scope := defScope st__law_first
abbrev N__law_first : List Str := ["one", "other", "wide", "met", "waiting", "at", "pair", "letter", "low", "high"]
abbrev d__law_first : He.DefD := ⟨("_law_first", none), "_law_first", "_law_first", defArgs st__law_first, defBody st__law_first, sc__law_first, [], []⟩
abbrev st_Machine_len : Stmt := inClass (top 23) 2
abbrev sc_Machine_len : Scope := defScope st_Machine_len
abbrev N_Machine_len : List Str := ["self"]
abbrev d_Machine_len : He.DefD := ⟨("Machine", some "__len__"), "__len__", "Machine.__len__", defArgs st_Machine_len, defBody st_Machine_len, sc_Machine_len, [], []⟩
abbrev st__law_same : Stmt := top 45
abbrev sc__law_same : Scope := defScope st__law_same
abbrev N__law_same : List Str := ["actual", "due", "k"]
abbrev d__law_same : He.DefD := ⟨("_law_same", none), "_law_same", "_law_same", defArgs st__law_same, defBody st__law_same, sc__law_same, [], []⟩
abbrev st__law_is : Stmt := top 46
abbrev sc__law_is : Scope := defScope st__law_is
abbrev N__law_is : List Str := ["machine", "inputs", "tables", "pair", "s"]
abbrev d__law_is : He.DefD := ⟨("_law_is", none), "_law_is", "_law_is", defArgs st__law_is, defBody st__law_is, sc__law_is, [], []⟩
abbrev st__law_numbered : Stmt := top 42
abbrev sc__law_numbered : Scope := defScope st__law_numbered
abbrev N__law_numbered : List Str := ["keys", "numbers", "found", "key"]
abbrev d__law_numbered : He.DefD := ⟨("_law_numbered", none), "_law_numbered", "_law_numbered", defArgs st__law_numbered, defBody st__law_numbered, sc__law_numbered, [], []⟩
abbrev st__law_least : Stmt := top 43
abbrev sc__law_least : Scope := defScope st__law_least
abbrev N__law_least : List Str := ["tables", "nexts", "kinds", "turn", "keys", "s", "finer", "found", "place", "at", "t", "least_nexts"]
abbrev d__law_least : He.DefD := ⟨("_law_least", none), "_law_least", "_law_least", defArgs st__law_least, defBody st__law_least, sc__law_least, [], []⟩
abbrev st__law_number : Stmt := top 47
abbrev sc__law_number : Scope := defScope st__law_number
abbrev N__law_number : List Str := ["tables", "letters", "number", "state", "place"]
abbrev d__law_number : He.DefD := ⟨("_law_number", none), "_law_number", "_law_number", defArgs st__law_number, defBody st__law_number, sc__law_number, [], []⟩
abbrev st__law_copied : Stmt := top 38
abbrev sc__law_copied : Scope := defScope st__law_copied
abbrev N__law_copied : List Str := ["cell", "nexts", "outs", "states", "own", "wide", "draws", "copied", "places", "s", "more_nexts", "members", "letter", "goals"]
abbrev d__law_copied : He.DefD := ⟨("_law_copied", none), "_law_copied", "_law_copied", defArgs st__law_copied, defBody st__law_copied, sc__law_copied, [], []⟩
abbrev st__law_ring : Stmt := top 39
abbrev sc__law_ring : Scope := defScope st__law_ring
abbrev N__law_ring : List Str := ["bits", "wide", "many", "nexts", "outs", "s", "after", "bit"]
abbrev d__law_ring : He.DefD := ⟨("_law_ring", none), "_law_ring", "_law_ring", defArgs st__law_ring, defBody st__law_ring, sc__law_ring, [], []⟩
abbrev st__law_rings : Stmt := top 40
abbrev sc__law_rings : Scope := defScope st__law_rings
abbrev N__law_rings : List Str := ["small", "large", "wide", "many", "groups", "turn", "at", "step", "low", "bits", "group"]
abbrev d__law_rings : He.DefD := ⟨("_law_rings", none), "_law_rings", "_law_rings", defArgs st__law_rings, defBody st__law_rings, sc__law_rings, [], []⟩
abbrev st__law_spoilt : Stmt := top 41
abbrev sc__law_spoilt : Scope := defScope st__law_spoilt
abbrev N__law_spoilt : List Str := ["tables", "draws", "nexts", "outs", "at", "letter", "members"]
abbrev d__law_spoilt : He.DefD := ⟨("_law_spoilt", none), "_law_spoilt", "_law_spoilt", defArgs st__law_spoilt, defBody st__law_spoilt, sc__law_spoilt, [], []⟩
abbrev st__law_table : Stmt := top 37
abbrev sc__law_table : Scope := defScope st__law_table
abbrev N__law_table : List Str := ["cell", "states", "wide", "top", "flat", "s"]
abbrev d__law_table : He.DefD := ⟨("_law_table", none), "_law_table", "_law_table", defArgs st__law_table, defBody st__law_table, sc__law_table, [], []⟩
abbrev st__law_two : Stmt := top 49
abbrev sc__law_two : Scope := defScope st__law_two
abbrev N__law_two : List Str := ["script", "wide", "draws", "small", "large", "rings", "low", "high", "one", "other", "own", "nexts", "outs"]
abbrev d__law_two : He.DefD := ⟨("_law_two", none), "_law_two", "_law_two", defArgs st__law_two, defBody st__law_two, sc__law_two, [], []⟩
abbrev st_is_reading : Stmt := top 17
abbrev sc_is_reading : Scope := defScope st_is_reading
abbrev N_is_reading : List Str := ["value", "inputs", "letter"]
abbrev d_is_reading : He.DefD := ⟨("is_reading", none), "is_reading", "is_reading", defArgs st_is_reading, defBody st_is_reading, sc_is_reading, [], []⟩
abbrev st_Machine_bits_written : Stmt := inClass (top 23) 4
abbrev sc_Machine_bits_written : Scope := defScope st_Machine_bits_written
abbrev N_Machine_bits_written : List Str := ["self", "reading", "state", "bits", "letter"]
abbrev d_Machine_bits_written : He.DefD := ⟨("Machine", some "bits_written"), "bits_written", "Machine.bits_written", defArgs st_Machine_bits_written, defBody st_Machine_bits_written, sc_Machine_bits_written, [], []⟩
abbrev st_is_number : Stmt := top 3
abbrev sc_is_number : Scope := defScope st_is_number
abbrev N_is_number : List Str := ["value"]
abbrev d_is_number : He.DefD := ⟨("is_number", none), "is_number", "is_number", defArgs st_is_number, defBody st_is_number, sc_is_number, [], []⟩
abbrev st_is_word : Stmt := top 7
abbrev sc_is_word : Scope := defScope st_is_word
abbrev N_is_word : List Str := ["value", "width"]
abbrev d_is_word : He.DefD := ⟨("is_word", none), "is_word", "is_word", defArgs st_is_word, defBody st_is_word, sc_is_word, [], []⟩
abbrev st_are_words : Stmt := top 8
abbrev sc_are_words : Scope := defScope st_are_words
abbrev N_are_words : List Str := ["value", "width", "least", "most", "words", "word"]
abbrev d_are_words : He.DefD := ⟨("are_words", none), "are_words", "are_words", defArgs st_are_words, defBody st_are_words, sc_are_words, [], []⟩
abbrev st_letters_of : Stmt := top 18
abbrev sc_letters_of : Scope := defScope st_letters_of
abbrev N_letters_of : List Str := ["width", "words", "letters", "place", "i"]
abbrev d_letters_of : He.DefD := ⟨("letters_of", none), "letters_of", "letters_of", defArgs st_letters_of, defBody st_letters_of, sc_letters_of, [], []⟩
abbrev st_Machine_write : Stmt := inClass (top 23) 5
abbrev sc_Machine_write : Scope := defScope st_Machine_write
abbrev N_Machine_write : List Str := ["self", "width", "words", "bits", "place", "bit"]
abbrev d_Machine_write : He.DefD := ⟨("Machine", some "write"), "write", "Machine.write", defArgs st_Machine_write, defBody st_Machine_write, sc_Machine_write, [], []⟩
abbrev st__law_written : Stmt := top 48
abbrev sc__law_written : Scope := defScope st__law_written
abbrev N__law_written : List Str := ["machine", "tables", "letters", "chosen", "k", "number", "place", "told"]
abbrev d__law_written : He.DefD := ⟨("_law_written", none), "_law_written", "_law_written", defArgs st__law_written, defBody st__law_written, sc__law_written, [], []⟩
abbrev st_first_unlike_letter : Stmt := top 29
abbrev sc_first_unlike_letter : Scope := defScope st_first_unlike_letter
abbrev N_first_unlike_letter : List Str := ["one", "other", "letter"]
abbrev d_first_unlike_letter : He.DefD := ⟨("first_unlike_letter", none), "first_unlike_letter", "first_unlike_letter", defArgs st_first_unlike_letter, defBody st_first_unlike_letter, sc_first_unlike_letter, [], []⟩
abbrev st_way_back : Stmt := top 28
abbrev sc_way_back : Scope := defScope st_way_back
abbrev N_way_back : List Str := ["ways", "goal", "letters", "way"]
abbrev d_way_back : He.DefD := ⟨("way_back", none), "way_back", "way_back", defArgs st_way_back, defBody st_way_back, sc_way_back, [], []⟩
abbrev st_first_split : Stmt := top 30
abbrev sc_first_split : Scope := defScope st_first_split
abbrev N_first_split : List Str := ["one", "other", "begin", "ways", "pairs", "at", "lower", "upper", "letter", "goal"]
abbrev d_first_split : He.DefD := ⟨("first_split", none), "first_split", "first_split", defArgs st_first_split, defBody st_first_split, sc_first_split, [], []⟩
abbrev st_first_unlike : Stmt := top 31
abbrev sc_first_unlike : Scope := defScope st_first_unlike
abbrev N_first_unlike : List Str := ["one", "other"]
abbrev d_first_unlike : He.DefD := ⟨("first_unlike", none), "first_unlike", "first_unlike", defArgs st_first_unlike, defBody st_first_unlike, sc_first_unlike, [], []⟩
abbrev st_numbered : Stmt := top 25
abbrev sc_numbered : Scope := defScope st_numbered
abbrev N_numbered : List Str := ["keys", "seen", "places", "key"]
abbrev d_numbered : He.DefD := ⟨("numbered", none), "numbered", "numbered", defArgs st_numbered, defBody st_numbered, sc_numbered, [], []⟩
abbrev st_state_classes : Stmt := top 26
abbrev sc_state_classes : Scope := defScope st_state_classes
abbrev N_state_classes : List Str := ["machine", "places", "keys", "state", "line", "finer", "goal"]
abbrev d_state_classes : He.DefD := ⟨("state_classes", none), "state_classes", "state_classes", defArgs st_state_classes, defBody st_state_classes, sc_state_classes, [], []⟩
abbrev st_least_machine : Stmt := top 27
abbrev sc_least_machine : Scope := defScope st_least_machine
abbrev N_least_machine : List Str := ["machine", "places", "chosen", "numbers", "nexts", "line", "goal", "state"]
abbrev d_least_machine : He.DefD := ⟨("least_machine", none), "least_machine", "least_machine", defArgs st_least_machine, defBody st_least_machine, sc_least_machine, [], []⟩
abbrev st_write_alike : Stmt := top 32
abbrev sc_write_alike : Scope := defScope st_write_alike
abbrev N_write_alike : List Str := ["one", "other"]
abbrev d_write_alike : He.DefD := ⟨("write_alike", none), "write_alike", "write_alike", defArgs st_write_alike, defBody st_write_alike, sc_write_alike, [], []⟩
abbrev st__law_holds : Stmt := top 50
abbrev sc__law_holds : Scope := defScope st__law_holds
abbrev N__law_holds : List Str := ["script", "draws", "inputs", "two", "one", "other", "least_ones", "told_one", "told_other", "due", "equal", "alike", "told", "letters", "low"]
abbrev d__law_holds : He.DefD := ⟨("_law_holds", none), "_law_holds", "_law_holds", defArgs st__law_holds, defBody st__law_holds, sc__law_holds, [], []⟩
abbrev st_law : Stmt := top 51
abbrev sc_law : Scope := defScope st_law
abbrev N_law : List Str := ["script"]
abbrev d_law : He.DefD := ⟨("law", none), "law", "law", defArgs st_law, defBody st_law, sc_law, [], []⟩
abbrev st_InvalidMachine_init : Stmt := inClass (top 14) 0
abbrev sc_InvalidMachine_init : Scope := defScope st_InvalidMachine_init
abbrev N_InvalidMachine_init : List Str := ["self", "part", "place", "__class__"]
abbrev d_InvalidMachine_init : He.DefD := ⟨("InvalidMachine", some "__init__"), "__init__", "InvalidMachine.__init__", defArgs st_InvalidMachine_init, defBody st_InvalidMachine_init, sc_InvalidMachine_init, [], []⟩
abbrev st_InvalidNumber_init : Stmt := inClass (top 11) 0
abbrev sc_InvalidNumber_init : Scope := defScope st_InvalidNumber_init
abbrev N_InvalidNumber_init : List Str := ["self", "value", "__class__"]
abbrev d_InvalidNumber_init : He.DefD := ⟨("InvalidNumber", some "__init__"), "__init__", "InvalidNumber.__init__", defArgs st_InvalidNumber_init, defBody st_InvalidNumber_init, sc_InvalidNumber_init, [], []⟩
abbrev st_InvalidWords_init : Stmt := inClass (top 12) 0
abbrev sc_InvalidWords_init : Scope := defScope st_InvalidWords_init
abbrev N_InvalidWords_init : List Str := ["self", "value", "__class__"]
abbrev d_InvalidWords_init : He.DefD := ⟨("InvalidWords", some "__init__"), "__init__", "InvalidWords.__init__", defArgs st_InvalidWords_init, defBody st_InvalidWords_init, sc_InvalidWords_init, [], []⟩
abbrev st_InvalidReading_init : Stmt := inClass (top 13) 0
abbrev sc_InvalidReading_init : Scope := defScope st_InvalidReading_init
abbrev N_InvalidReading_init : List Str := ["self", "value", "__class__"]
abbrev d_InvalidReading_init : He.DefD := ⟨("InvalidReading", some "__init__"), "__init__", "InvalidReading.__init__", defArgs st_InvalidReading_init, defBody st_InvalidReading_init, sc_InvalidReading_init, [], []⟩
abbrev st_Undefined_init : Stmt := inClass (top 15) 0
abbrev sc_Undefined_init : Scope := defScope st_Undefined_init
abbrev N_Undefined_init : List Str := ["self", "what", "__class__"]
abbrev d_Undefined_init : He.DefD := ⟨("Undefined", some "__init__"), "__init__", "Undefined.__init__", defArgs st_Undefined_init, defBody st_Undefined_init, sc_Undefined_init, [], []⟩
abbrev FILE : Str := "/claim/cut.py"
abbrev xfs : List He.DefD := [d_InvalidMachine_init, d_InvalidNumber_init, d_InvalidWords_init, d_InvalidReading_init, d_Undefined_init]
abbrev fa : List He.Fa := [.free "isinstance", .free "bool", .free "len", .glo "Machine", .free "int", .free "enumerate", .free "list", .free "tuple", .free "all", .free "min", .free "range", .free "max", .free "sum", .free "zip", .cls "Machine", .meth "Machine" "__eq__", .glo "is_integer", .glo "is_inputs", .glo "as_tuple", .glo "is_below", .glo "is_line", .glo "right_nexts", .glo "right_outs", .mkr "Machine", .glo "_law_cell", .glo "_law_mixed", .glo "_law_draws", .glo "_law_first", .meth "Machine" "__len__", .glo "_law_same", .glo "_law_is", .glo "_law_numbered", .glo "_law_least", .glo "_law_number", .glo "_law_copied", .glo "_law_ring", .glo "_law_rings", .glo "_law_spoilt", .glo "_law_table", .glo "_law_two", .glo "is_reading", .meth "Machine" "bits_written", .glo "is_number", .glo "is_word", .glo "are_words", .glo "letters_of", .meth "Machine" "write", .glo "_law_written", .glo "first_unlike_letter", .glo "way_back", .glo "first_split", .glo "first_unlike", .glo "numbered", .glo "state_classes", .glo "least_machine", .glo "write_alike", .glo "_law_holds", .glo "law", .glo "InvalidMachine", .free "super", .glo "InvalidNumber", .glo "InvalidWords", .glo "InvalidReading", .glo "Undefined"]
abbrev fns : List He.DefD := [d_Machine_eq, d_is_integer, d_is_inputs, d_as_tuple, d_is_below, d_is_line, d_right_nexts, d_right_outs, d_Machine_init, d__law_cell, d__law_mixed, d__law_draws, d__law_first, d_Machine_len, d__law_same, d__law_is, d__law_numbered, d__law_least, d__law_number, d__law_copied, d__law_ring, d__law_rings, d__law_spoilt, d__law_table, d__law_two, d_is_reading, d_Machine_bits_written, d_is_number, d_is_word, d_are_words, d_letters_of, d_Machine_write, d__law_written, d_first_unlike_letter, d_way_back, d_first_split, d_first_unlike, d_numbered, d_state_classes, d_least_machine, d_write_alike, d__law_holds, d_law]
abbrev tbs : List He.Tab := []
abbrev mss : List (Frag → Bool) := [kitC CS, attB ["Machine"] "inputs", attB ["Machine"] "nexts", attB ["Machine"] "outs", errB FILE "InvalidMachine" "InvalidMachine.__init__" ["part", "place"], errB FILE "InvalidNumber" "InvalidNumber.__init__" ["value"], errB FILE "InvalidWords" "InvalidWords.__init__" ["value"], errB FILE "InvalidReading" "InvalidReading.__init__" ["value"], errB FILE "Undefined" "Undefined.__init__" ["what"]]
abbrev lo0 : List Str := ["_wall", "is_integer", "is_number", "is_inputs", "as_tuple", "is_below", "is_word", "are_words", "CarryError", "InvalidNumber", "InvalidWords", "InvalidReading", "InvalidMachine", "Undefined", "is_reading", "letters_of", "is_line", "right_nexts", "right_outs", "Machine", "numbered", "state_classes", "least_machine", "way_back", "first_unlike_letter", "first_split", "first_unlike", "write_alike", "_law_cell", "_law_mixed"]
abbrev lo1 : List Str := ["_law_draws", "_law_table", "_law_copied", "_law_ring", "_law_rings", "_law_spoilt", "_law_numbered", "_law_least", "_law_first", "_law_same", "_law_is", "_law_number", "_law_written", "_law_two", "_law_holds"]
abbrev lo : List Str := lo0 ++ lo1
abbrev R : PySem.W.OpenRow := PySem.W.OpenLaw.row PySem.Challenge.rw_onlycarries_k08_whole_alike_machines
abbrev hkY : PySem.W.Hook := hookY 5 (fun K => noL K && mss.all fun m => m K) fa fns xfs tbs
def ob (s : PySem.W.SharedT) : AlY := obsYG 5 (fun K => noL K && mss.all fun m => m K) fa fns xfs tbs (HandSHeadRun.getT s)
end Py
namespace Py
open PySem PySem.Spec PyProof.Rows L2
theorem run0 (w : World) : HandSHeadRun.RunEq R (PySem.W.view R.prog [51]) hkY ob 8000 lo (w.withFollow "special-get-raises" false) := by
  intro os
  kernel_rfl
theorem run1 (w : World) : HandSHeadRun.RunEq R (PySem.W.view R.prog [51]) hkY ob 8000 lo (w.withFollow "special-get-raises" true) := by
  intro os
  kernel_rfl
theorem run (w : World) : HandSHeadRun.RunEq R (PySem.W.view R.prog [51]) hkY ob 8000 lo w := PySem.W.byRow2 "special-get-raises" run0 run1 w
end Py
/-! More of what is computed. -/
namespace Py
/-- len(x): of an instance by its class's own __len__ -/
def lenX (ms : List (String × (List D → Res D))) : D → Res D
  | .ins c fs => match ms.lookup c with
    | some fm => (match fm [.ins c fs] with
      | .ok (.int n) => if 0 ≤ n ∧ n.natAbs < B62 then .ok (.int n) else .stuck
      | _ => .stuck)
    | none => .stuck
  | .lst xs => blen (.lst xs)
  | .tup xs => blen (.tup xs)
  | .str s => blen (.str s)
  | .dic t kvs => blen (.dic t kvs)
  | _ => .stuck
/-- y = [[] for .. in n], then for g in it: y[j].append(m), m a number -/
def scatL (i gi : Nat) (j m : EM) : List D → Env → List (List Int) → Res Fl
  | [], e, zss => .ok (.next (e.set i (some (.lst (zss.map fun zs => .lst (zs.map .int))))))
  | y :: ys, e, zss => noexc (j (e.set gi (some y))) >>= fun k => noexc (m (e.set gi (some y))) >>= fun d => match k, d with
    | .int k, .int z => (match L2.ixN zss.length k with
      | some q => if (zss.getD q []).length < SZ then scatL i gi j m ys (e.set gi (some y)) (zss.set q (zss.getD q [] ++ [z])) else .stuck
      | none => .stuck)
    | _, _ => .stuck
def scat (i gi : Nat) (n it : IM) (j m : EM) : SM := fun e => noexc (n e) >>= fun xs => if decide (xs.length ≤ SZ) && decide (i < e.length) then noexc (it (e.set i none)) >>= fun ys => scatL i gi j m ys (e.set i none) (List.replicate xs.length []) else .stuck
end Py
namespace Py
/-- == of two instances of one class by its own __eq__, else as of plain things -/
def eqX (ms : List (String × (List D → Res D))) : D → D → Res D
  | .ins c fs, .ins c2 fs2 => if c = c2 then (match ms.lookup c with
    | some f => (match f [.ins c fs, .ins c2 fs2] with
      | .ok (.bl b) => .ok (.bl b)
      | _ => .stuck)
    | none => .stuck) else .stuck
  | x, y => oeq x y
end Py
/-! What plain data look like in the abstract heap, and the readings that say: this code computes that. -/
namespace Py
open PySem L2
theorem ofS_inj {a b : String} (h : Str.ofString a = Str.ofString b) : a = b := by
  rw [Str.ofString_eq_toList, Str.ofString_eq_toList] at h
  have h1 : a.toList.map Char.toNat = b.toList.map Char.toNat := by
    have := congrArg (fun s : Str => s.cps.toList) h
    simpa using this
  have h2 : a.toList = b.toList := by
    have hc : ∀ x y : Char, x.toNat = y.toNat → x = y := fun x y e => by
      apply Char.ext
      apply UInt32.toNat_inj.mp
      exact e
    generalize a.toList = l at h1
    generalize b.toList = m at h1
    induction l generalizing m with
    | nil => cases m with
      | nil => rfl
      | cons _ _ => simp at h1
    | cons x l ih => cases m with
      | nil => simp at h1
      | cons y m =>
        simp only [List.map_cons, List.cons.injEq] at h1
        rw [hc _ _ h1.1, ih m h1.2]
  exact String.ext_iff.mpr h2
/-- an address set to be avoided -/
abbrev AS := Addr → Prop
/-- a key of a dict of numbers and texts -/
def kvK : D → Option Key
  | .int i => some (.inl i)
  | .str s => some (.inr (Str.ofString s))
  | _ => none
mutual
/-- a key, nested -/
def nk : D → Option NestedKey
  | .non => some .none
  | .bl b => some (.num (b2i b))
  | .int i => some (.num i)
  | .tup xs => (nkL xs).map .tup
  | _ => none
def nkL : List D → Option (List NestedKey)
  | [] => some []
  | d :: r => match nk d, nkL r with | some k, some ks => some (k :: ks) | _, _ => none
end
def entW (w : World) (x : NestedKey × Addr × Value) : DictEntry := ⟨x.1.hash w, .ref x.2.1, x.2.2⟩
/-- a dict whose keys are tuples -/
def dicT (a : Addr) (es : List (NestedKey × Addr × V)) : HO := .ext fun h => (a == sysModules) = false ∧ es.length ≤ sizeLine ∧ ∃ xs : List (NestedKey × Addr × Value), Paired (fun p q => p.1 = q.1 ∧ p.2.1 = q.2.1 ∧ RelV p.2.2 q.2.2) es xs ∧
  ∃ o en ep, h.get? a = some o ∧ o.ExactDict ∧ o.data = .dict en ep ∧ (∀ w : World, en.toList = xs.map (entW w)) ∧ (xs.map (·.1)).Nodup
mutual
def Rep (K : Frag) (A : AS) (H : Hp) : D → V → Prop
  | .non, v => v = .non
  | .bl b, v => v = .bl b
  | .int i, v => v = .int i
  | .str s, v => v = .str (Str.ofString s)
  | .tup xs, v => ∃ a vs, v = .ref a ∧ SqT K H a vs ∧ RepL K A H xs vs
  | .lst xs, v => ∃ a vs, v = .ref a ∧ ¬ A a ∧ Rd H a (.lst vs) ∧ RepL K A H xs vs
  | .dic t kvs, v => ∃ a, v = .ref a ∧ ¬ A a ∧ ((t = false ∧ ∃ ks, H a = some (.dK ks) ∧ RepK K A H kvs ks) ∨ (t = true ∧ ∃ es, H a = some (dicT a es) ∧ RepT K A H kvs es))
  | .ins c fs, v => ∃ a dx fvs, v = .ref a ∧ ¬ A a ∧ H a = some (.ins (ca K c) dx fvs) ∧ RepF K A H fs fvs
def RepL (K : Frag) (A : AS) (H : Hp) : List D → List V → Prop
  | [], vs => vs = []
  | d :: ds, vs => ∃ v r, vs = v :: r ∧ Rep K A H d v ∧ RepL K A H ds r
def RepF (K : Frag) (A : AS) (H : Hp) : List (String × D) → List (Str × V) → Prop
  | [], fs => fs = []
  | (n, d) :: r, fs => ∃ v q, fs = (Str.ofString n, v) :: q ∧ Rep K A H d v ∧ RepF K A H r q
def RepK (K : Frag) (A : AS) (H : Hp) : List (D × D) → List (Key × V) → Prop
  | [], ks => ks = []
  | (k, d) :: r, ks => ∃ c v q, ks = (c, v) :: q ∧ kvK k = some c ∧ Rep K A H d v ∧ RepK K A H r q
def RepT (K : Frag) (A : AS) (H : Hp) : List (D × D) → List (NestedKey × Addr × V) → Prop
  | [], es => es = []
  | (k, d) :: r, es => ∃ c b v q, es = (c, b, v) :: q ∧ (nk k = some c ∧ keyOk true k = true) ∧ Rep K A H k (.ref b) ∧ Rep K A H d v ∧ RepT K A H r q
end
/-- what a dict at a holds -/
def DicAt (K : Frag) (A : AS) (H : Hp) (a : Addr) (t : Bool) (kvs : List (D × D)) : Prop := (t = false ∧ ∃ ks, H a = some (.dK ks) ∧ RepK K A H kvs ks) ∨ (t = true ∧ ∃ es, H a = some (dicT a es) ∧ RepT K A H kvs es)
theorem rep_dic {K : Frag} {A : AS} {H : Hp} {t : Bool} {kvs : List (D × D)} {v : V} : Rep K A H (.dic t kvs) v ↔ ∃ a, v = .ref a ∧ ¬ A a ∧ DicAt K A H a t kvs := by
  simp only [Rep]
  exact Iff.rfl
/-- a tuple never changes -/
def still : HO → Prop
  | .tup _ => True
  | .frz _ (.tup _) => True
  | _ => False
/-- from H to H': what is not in A is kept, the new A' has of the old heap only A -/
structure Mv (A : AS) (H : Hp) (A' : AS) (H' : Hp) : Prop where
  av : ∀ a, A' a → A a ∨ H a = none
  kp : ∀ a o, H a = some o → (¬ A a ∨ still o) → H' a = some o
theorem Mv.same {A : AS} {H H' : Hp} (s : Same H H') : Mv A H A H' := ⟨fun _ h => .inl h, fun a o e _ => s a o e⟩
theorem Mv.less {A A' : AS} {H : Hp} (s : ∀ a, A' a → A a) : Mv A H A' H := ⟨fun a h => .inl (s a h), fun _ _ e _ => e⟩
theorem Mv.refl {A : AS} {H : Hp} : Mv A H A H := .same (Same.refl H)
theorem Mv.trans {A A1 A2 : AS} {H H1 H2 : Hp} (h : Mv A H A1 H1) (k : Mv A1 H1 A2 H2) : Mv A H A2 H2 := by
  refine ⟨fun a x => ?_, fun a o e q => ?_⟩
  · rcases k.av a x with y | y
    · exact h.av a y
    · cases e : H a with
      | none => exact .inr rfl
      | some o =>
        by_cases hA : A a
        · exact .inl hA
        · rw [h.kp a o e (.inl hA)] at y
          cases y
  · refine k.kp a o (h.kp a o e q) ?_
    rcases q with q | q
    · refine .inl fun y => ?_
      rcases h.av a y with z | z
      · exact q z
      · rw [e] at z
        cases z
    · exact .inr q
theorem Rd.move {A A' : AS} {H H' : Hp} {a : Addr} {u : HO} (m : Mv A H A' H') (h : Rd H a u) (n : ¬ A a) : Rd H' a u ∧ ¬ A' a := by
  have key : ∀ o, H a = some o → H' a = some o ∧ ¬ A' a := fun o e => ⟨m.kp a o e (.inl n), fun x => by
    rcases m.av a x with y | y
    · exact n y
    · rw [e] at y
      cases y⟩
  rcases h with h | ⟨o, h⟩
  · exact ⟨.inl (key _ h).1, (key _ h).2⟩
  · exact ⟨.inr ⟨o, (key _ h).1⟩, (key _ h).2⟩
theorem SqT.move {K : Frag} {A A' : AS} {H H' : Hp} {a : Addr} {vs : List V} (m : Mv A H A' H') (h : SqT K H a vs) : SqT K H' a vs := by
  rcases h with (h | ⟨o, h⟩) | h
  · exact .inl (.inl (m.kp a _ h (.inr trivial)))
  · exact .inl (.inr ⟨o, m.kp a _ h (.inr trivial)⟩)
  · exact .inr h
mutual
theorem Rep.move {K : Frag} {A A' : AS} {H H' : Hp} (m : Mv A H A' H') : ∀ (d : D) (v : V), Rep K A H d v → Rep K A' H' d v
  | .non, _, h => h
  | .bl _, _, h => h
  | .int _, _, h => h
  | .str _, _, h => h
  | .tup xs, v, h => by
    simp only [Rep] at h ⊢
    obtain ⟨a, vs, e, q, r⟩ := h
    exact ⟨a, vs, e, SqT.move m q, RepL.move m xs vs r⟩
  | .lst xs, v, h => by
    simp only [Rep] at h ⊢
    obtain ⟨a, vs, e, n, q, r⟩ := h
    exact ⟨a, vs, e, (Rd.move m q n).2, (Rd.move m q n).1, RepL.move m xs vs r⟩
  | .dic t kvs, v, h => by
    simp only [Rep] at h ⊢
    obtain ⟨a, e, n, ⟨ht, ks, q, r⟩ | ⟨ht, es, q, r⟩⟩ := h
    · have z := Rd.move m (.inl q) n
      exact ⟨a, e, z.2, .inl ⟨ht, ks, m.kp a _ q (.inl n), RepK.move m kvs ks r⟩⟩
    · have z := Rd.move m (.inl q) n
      exact ⟨a, e, z.2, .inr ⟨ht, es, m.kp a _ q (.inl n), RepT.move m kvs es r⟩⟩
  | .ins c fs, v, h => by
    simp only [Rep] at h ⊢
    obtain ⟨a, dx, fvs, e, n, q, r⟩ := h
    have z : Rd H' a _ ∧ ¬ A' a := Rd.move m (.inl q) n
    refine ⟨a, dx, fvs, e, z.2, ?_, RepF.move m fs fvs r⟩
    exact m.kp a _ q (.inl n)
theorem RepL.move {K : Frag} {A A' : AS} {H H' : Hp} (m : Mv A H A' H') : ∀ (ds : List D) (vs : List V), RepL K A H ds vs → RepL K A' H' ds vs
  | [], vs, h => by
    simp only [RepL] at h ⊢
    exact h
  | d :: ds, vs, h => by
    simp only [RepL] at h ⊢
    obtain ⟨v, r, e, h1, h2⟩ := h
    exact ⟨v, r, e, Rep.move m d v h1, RepL.move m ds r h2⟩
theorem RepF.move {K : Frag} {A A' : AS} {H H' : Hp} (m : Mv A H A' H') : ∀ (ds : List (String × D)) (vs : List (Str × V)), RepF K A H ds vs → RepF K A' H' ds vs
  | [], vs, h => by
    simp only [RepF] at h ⊢
    exact h
  | (n, d) :: ds, vs, h => by
    simp only [RepF] at h ⊢
    obtain ⟨v, r, e, h1, h2⟩ := h
    exact ⟨v, r, e, Rep.move m d v h1, RepF.move m ds r h2⟩
theorem RepK.move {K : Frag} {A A' : AS} {H H' : Hp} (m : Mv A H A' H') : ∀ (ds : List (D × D)) (vs : List (Key × V)), RepK K A H ds vs → RepK K A' H' ds vs
  | [], vs, h => by
    simp only [RepK] at h ⊢
    exact h
  | (k, d) :: ds, vs, h => by
    simp only [RepK] at h ⊢
    obtain ⟨c, v, r, e, h0, h1, h2⟩ := h
    exact ⟨c, v, r, e, h0, Rep.move m d v h1, RepK.move m ds r h2⟩
theorem RepT.move {K : Frag} {A A' : AS} {H H' : Hp} (m : Mv A H A' H') : ∀ (ds : List (D × D)) (vs : List (NestedKey × Addr × V)), RepT K A H ds vs → RepT K A' H' ds vs
  | [], vs, h => by
    simp only [RepT] at h ⊢
    exact h
  | (k, d) :: ds, vs, h => by
    simp only [RepT] at h ⊢
    obtain ⟨c, b, v, r, e, h0, h1, h2, h3⟩ := h
    exact ⟨c, b, v, r, e, h0, Rep.move m k _ h1, Rep.move m d v h2, RepT.move m ds r h3⟩
end
theorem DicAt.move {K : Frag} {A A' : AS} {H H' : Hp} {a : Addr} {t : Bool} {kvs : List (D × D)} (m : Mv A H A' H') (k : H' a = H a) (h : DicAt K A H a t kvs) : DicAt K A' H' a t kvs := by
  rcases h with ⟨ht, ks, q, r⟩ | ⟨ht, es, q, r⟩
  · exact .inl ⟨ht, ks, k.trans q, RepK.move m kvs ks r⟩
  · exact .inr ⟨ht, es, k.trans q, RepT.move m kvs es r⟩
theorem RepL.length {K : Frag} {A : AS} {H : Hp} : ∀ {ds : List D} {vs : List V}, RepL K A H ds vs → ds.length = vs.length
  | [], vs, h => by
    simp only [RepL] at h
    subst h
    rfl
  | d :: ds, vs, h => by
    simp only [RepL] at h
    obtain ⟨v, r, rfl, h1, h2⟩ := h
    simp [RepL.length h2]
theorem RepL.get {K : Frag} {A : AS} {H : Hp} : ∀ {ds : List D} {vs : List V} {i : Nat} {d : D}, RepL K A H ds vs → ds[i]? = some d → ∃ v, vs[i]? = some v ∧ Rep K A H d v
  | [], vs, i, d, h, e => by simp at e
  | d0 :: ds, vs, i, d, h, e => by
    simp only [RepL] at h
    obtain ⟨v, r, rfl, h1, h2⟩ := h
    cases i with
    | zero =>
      simp at e
      subst e
      exact ⟨v, rfl, h1⟩
    | succ i =>
      obtain ⟨w, q1, q2⟩ := RepL.get (i := i) h2 (by simpa using e)
      exact ⟨w, by simpa using q1, q2⟩
theorem RepL.append {K : Frag} {A : AS} {H : Hp} : ∀ {ds es : List D} {vs ws : List V}, RepL K A H ds vs → RepL K A H es ws → RepL K A H (ds ++ es) (vs ++ ws)
  | [], es, vs, ws, h, k => by
    simp only [RepL] at h
    subst h
    exact k
  | d :: ds, es, vs, ws, h, k => by
    simp only [RepL] at h
    obtain ⟨v, r, rfl, h1, h2⟩ := h
    simp only [List.cons_append, RepL]
    exact ⟨v, r ++ ws, rfl, h1, RepL.append h2 k⟩
theorem RepL.drop {K : Frag} {A : AS} {H : Hp} : ∀ {ds : List D} {vs : List V} (n : Nat), RepL K A H ds vs → RepL K A H (ds.drop n) (vs.drop n)
  | ds, vs, 0, h => h
  | [], vs, n + 1, h => by
    simp only [RepL] at h
    subst h
    simp [RepL]
  | d :: ds, vs, n + 1, h => by
    simp only [RepL] at h
    obtain ⟨v, r, rfl, h1, h2⟩ := h
    exact RepL.drop n h2
theorem RepL.take {K : Frag} {A : AS} {H : Hp} : ∀ {ds : List D} {vs : List V} (n : Nat), RepL K A H ds vs → RepL K A H (ds.take n) (vs.take n)
  | ds, vs, 0, h => by simp [RepL]
  | [], vs, n + 1, h => by
    simp only [RepL] at h
    subst h
    simp [RepL]
  | d :: ds, vs, n + 1, h => by
    simp only [RepL] at h
    obtain ⟨v, r, rfl, h1, h2⟩ := h
    simp only [List.take_succ_cons, RepL]
    exact ⟨v, _, rfl, h1, RepL.take n h2⟩
theorem RepL.set {K : Frag} {A : AS} {H : Hp} {d : D} {v : V} (hd : Rep K A H d v) : ∀ {ds : List D} {vs : List V} (n : Nat), RepL K A H ds vs → RepL K A H (ds.set n d) (vs.set n v)
  | [], vs, n, h => by
    simp only [RepL] at h
    subst h
    simp [RepL]
  | d0 :: ds, vs, 0, h => by
    simp only [RepL] at h
    obtain ⟨w, r, rfl, h1, h2⟩ := h
    simp only [List.set_cons_zero, RepL]
    exact ⟨v, r, rfl, hd, h2⟩
  | d0 :: ds, vs, n + 1, h => by
    simp only [RepL] at h
    obtain ⟨w, r, rfl, h1, h2⟩ := h
    simp only [List.set_cons_succ, RepL]
    exact ⟨w, _, rfl, h1, RepL.set hd n h2⟩
theorem RepL.one {K : Frag} {A : AS} {H : Hp} {d : D} {v : V} (h : Rep K A H d v) : RepL K A H [d] [v] := by
  simp only [RepL]
  exact ⟨v, [], rfl, h, rfl⟩
theorem RepF.look {K : Frag} {A : AS} {H : Hp} {f : String} : ∀ {fs : List (String × D)} {vs : List (Str × V)}, RepF K A H fs vs →
    match fs.lookup f with | some d => ∃ v, vs.lookup (Str.ofString f) = some v ∧ Rep K A H d v | none => vs.lookup (Str.ofString f) = none
  | [], vs, h => by
    simp only [RepF] at h
    subst h
    rfl
  | (n, d) :: fs, vs, h => by
    simp only [RepF] at h
    obtain ⟨v, r, rfl, h1, h2⟩ := h
    by_cases e : f = n
    · subst e
      simp only [List.lookup_cons, beq_self_eq_true]
      exact ⟨v, rfl, h1⟩
    · have e2 : (Str.ofString f == Str.ofString n) = false := beq_eq_false_iff_ne.mpr fun q => e (ofS_inj q)
      have e3 : (f == n) = false := beq_eq_false_iff_ne.mpr e
      simp only [List.lookup_cons, e2, e3]
      exact RepF.look h2
theorem RepF.put {K : Frag} {A : AS} {H : Hp} {f : String} {d : D} {v : V} (hd : Rep K A H d v) : ∀ {fs : List (String × D)} {vs : List (Str × V)}, RepF K A H fs vs → RepF K A H (putF f d fs) (L2.putF (Str.ofString f) v vs)
  | [], vs, h => by
    simp only [RepF] at h
    subst h
    simp only [putF, L2.putF, RepF]
    exact ⟨v, [], rfl, hd, rfl⟩
  | (n, d0) :: fs, vs, h => by
    simp only [RepF] at h
    obtain ⟨w, r, rfl, h1, h2⟩ := h
    by_cases e : n = f
    · subst e
      simp only [putF, L2.putF, if_pos, RepF]
      exact ⟨v, r, rfl, hd, h2⟩
    · have e2 : ¬ Str.ofString n = Str.ofString f := fun q => e (ofS_inj q)
      simp only [putF, L2.putF, if_neg e, if_neg e2, RepF]
      exact ⟨w, _, rfl, h1, RepF.put hd h2⟩
theorem RepF.length {K : Frag} {A : AS} {H : Hp} : ∀ {fs : List (String × D)} {vs : List (Str × V)}, RepF K A H fs vs → fs.length = vs.length
  | [], vs, h => by
    simp only [RepF] at h
    subst h
    rfl
  | (n, d) :: fs, vs, h => by
    simp only [RepF] at h
    obtain ⟨v, r, rfl, h1, h2⟩ := h
    simp [RepF.length h2]
/-! ### the frame -/
/-- what a name's own object at a holds -/
def OwnAt (K : Frag) (A : AS) (H : Hp) (a : Addr) : D → Prop
  | .lst ds => ∃ vs, H a = some (.lst vs) ∧ RepL K A H ds vs
  | .ins c fs => ∃ dx fvs, H a = some (.ins (ca K c) dx fvs) ∧ RepF K A H fs fvs
  | .dic t kvs => DicAt K A H a t kvs
  | _ => False
theorem OwnAt.move {K : Frag} {A A' : AS} {H H' : Hp} {a : Addr} {d : D} (m : Mv A H A' H') (k : H' a = H a) (h : OwnAt K A H a d) : OwnAt K A' H' a d := by
  cases d with
  | lst ds =>
    obtain ⟨vs, e, r⟩ := h
    exact ⟨vs, k.trans e, RepL.move m _ _ r⟩
  | ins c fs =>
    obtain ⟨dx, fvs, e, r⟩ := h
    exact ⟨dx, fvs, k.trans e, RepF.move m _ _ r⟩
  | dic t kvs => exact DicAt.move m k h
  | _ => exact h
theorem OwnAt.obj {K : Frag} {A : AS} {H : Hp} {a : Addr} {d : D} (h : OwnAt K A H a d) : ∃ u, H a = some u ∧ ¬ still u ∧ ∀ fvs, u ≠ .xd fvs := by
  cases d with
  | lst ds =>
    obtain ⟨vs, e, _⟩ := h
    exact ⟨_, e, fun z => z, fun _ z => nomatch z⟩
  | ins c fs =>
    obtain ⟨dx, fvs, e, _⟩ := h
    exact ⟨_, e, fun z => z, fun _ z => nomatch z⟩
  | dic t kvs =>
    rcases h with ⟨_, ks, e, _⟩ | ⟨_, es, e, _⟩
    · exact ⟨_, e, fun z => z, fun _ z => nomatch z⟩
    · exact ⟨_, e, fun z => z, fun _ z => nomatch z⟩
  | _ => exact h.elim
/-- what is owned is a value for those who leave it alone -/
theorem OwnAt.rep {K : Frag} {A A' : AS} {H : Hp} {a : Addr} {d : D} (m : Mv A H A' H) (n : ¬ A' a) (h : OwnAt K A H a d) : Rep K A' H d (.ref a) := by
  cases d with
  | lst ds =>
    obtain ⟨vs, e, r⟩ := h
    simp only [Rep]
    exact ⟨a, vs, rfl, n, .inl e, RepL.move m _ _ r⟩
  | ins c fs =>
    obtain ⟨dx, fvs, e, r⟩ := h
    simp only [Rep]
    exact ⟨a, dx, fvs, rfl, n, e, RepF.move m _ _ r⟩
  | dic t kvs => exact rep_dic.mpr ⟨a, rfl, n, DicAt.move m rfl h⟩
  | _ => exact h.elim
abbrev OW := Nat → Option Addr
def AO (A : AS) (O : OW) : AS := fun a => A a ∨ ∃ i, O i = some a
/-- the heap at the entry; the object that slot 0 owns throughout (an __init__'s self) -/
structure Base where
  hp : Hp
  px : Option Addr
/-- what is known of a caught error: the slot of its name, where it stands, where its dict stands, what that holds -/
structure Xh where
  i : Nat
  a : Addr
  da : Addr
  fs : List (String × D)
/-- which names own; in an except suite: the caught error -/
structure Ow where
  f : Nat → Bool
  x : Option Xh
instance : CoeFun Ow (fun _ => Nat → Bool) := ⟨Ow.f⟩
@[reducible] def Ow.off (o : Ow) : Ow := ⟨fun i => match o.x with | some q => i == q.i | none => false, o.x⟩
structure XAt (K : Frag) (A : AS) (H : Hp) (σ : L2.St) (e : Env) (f : Nat → Bool) (q : Xh) : Prop where
  own : f q.i = true
  slot : σ[q.i]? = some (some (.ref q.a))
  no : ∀ d, e[q.i]? ≠ some (some d)
  xd : ∃ fvs, H q.da = some (.xd fvs) ∧ RepF K A H q.fs fvs
def XFact (K : Frag) (A : AS) (H : Hp) (σ : L2.St) (e : Env) (o : Ow) : Prop := ∀ q, o.x = some q → XAt K A H σ e o.f q
theorem XFact.none {K : Frag} {A : AS} {H : Hp} {σ : L2.St} {e : Env} {o : Ow} (h : o.x = none) : XFact K A H σ e o := fun q z => by
  rw [h] at z
  cases z
theorem XFact.move {K : Frag} {A A' : AS} {H H' : Hp} {σ σ' : L2.St} {e e' : Env} {o : Ow} (m : Mv A H A' H') (k : ∀ da fvs, H da = some (.xd fvs) → H' da = some (.xd fvs)) (s : ∀ i, o i = true → (∀ d, e[i]? ≠ some (some d)) → σ'[i]? = σ[i]? ∧ ∀ d, e'[i]? ≠ some (some d))
    (h : XFact K A H σ e o) : XFact K A' H' σ' e' o := fun q hq => by
  obtain ⟨h1, h2, h3, fvs, h4, h5⟩ := h q hq
  obtain ⟨s1, s2⟩ := s q.i h1 h3
  exact ⟨h1, s1.trans h2, s2, fvs, k _ _ h4, RepF.move m _ _ h5⟩
theorem XFact.heap {K : Frag} {A A' : AS} {H H' : Hp} {σ : L2.St} {e : Env} {o : Ow} (m : Mv A H A' H') (k : ∀ da fvs, H da = some (.xd fvs) → H' da = some (.xd fvs)) (h : XFact K A H σ e o) : XFact K A' H' σ e o := h.move m k fun i _ n => ⟨rfl, n⟩
/-- the frame's slots hold these data; ow: the names that own what they hold; H0: the heap at the entry -/
structure ER (K : Frag) (A : AS) (H0 : Base) (ow : Ow) (O : OW) (σ : L2.St) (H : Hp) (e : Env) : Prop where
  len : σ.length = e.length
  a0 : ∀ a, A a → H a ≠ none
  same : Same H0.hp H
  vals : ∀ i d, e[i]? = some (some d) → ow i = false → ∃ v, σ[i]? = some (some v) ∧ Rep K (AO A O) H d v
  owns : ∀ i d, e[i]? = some (some d) → ow i = true → ∃ a, O i = some a ∧ σ[i]? = some (some (.ref a)) ∧ OwnAt K (AO A O) H a d
  fresh : ∀ i a, O i = some a → H0.hp a = none ∧ H a ≠ none ∧ ¬ A a
  inj : ∀ i j a, O i = some a → O j = some a → i = j
  pin : ∀ a, H0.px = some a → O 0 = some a
  exq : XFact K (AO A O) H σ e ow
section
variable {K : Frag} {A : AS} {H0 : Base} {ow : Ow} {O : OW} {σ : L2.St} {H H' : Hp} {e : Env}
theorem ne_none {H H' : Hp} {a : Addr} (s : Same H H') (h : H a ≠ none) : H' a ≠ none := by
  cases q : H a with
  | none => exact absurd q h
  | some o =>
    rw [s a o q]
    exact fun z => nomatch z
theorem ER.there (R : ER K A H0 ow O σ H e) : ∀ a, AO A O a → H a ≠ none := fun a h => by
  rcases h with h | ⟨i, h⟩
  · exact R.a0 a h
  · exact (R.fresh i a h).2.1
theorem ER.to (R : ER K A H0 ow O σ H e) (s : Same H H') : ER K A H0 ow O σ H' e :=
  ⟨R.len, fun a h => ne_none s (R.a0 a h), R.same.trans s, fun i d h1 h2 => let ⟨v, q, r⟩ := R.vals i d h1 h2; ⟨v, q, Rep.move (Mv.same s) d v r⟩,
    fun i d h1 h2 => let ⟨a, q, q2, r⟩ := R.owns i d h1 h2; ⟨a, q, q2, r.move (Mv.same s) (by
      cases z : H a with
      | none => exact absurd z (R.fresh i a q).2.1
      | some o => exact s a o z)⟩,
    fun i a h => ⟨(R.fresh i a h).1, ne_none s (R.fresh i a h).2.1, (R.fresh i a h).2.2⟩, R.inj, R.pin, R.exq.heap (Mv.same s) fun da fvs e => s _ _ e⟩
/-- a name takes a value -/
theorem ER.set (R : ER K A H0 ow O σ H e) {i : Nat} {d : D} {v : V} (hi : ow i = false) (r : Rep K (AO A O) H d v) : ER K A H0 ow O (σ.set i (some v)) H (e.set i (some d)) := by
  refine ⟨by simp [R.len], R.a0, R.same, fun j d' h1 h2 => ?_, fun j d' h1 h2 => ?_, R.fresh, R.inj, R.pin, R.exq.move Mv.refl (fun _ _ e => e) fun j hj n => ?_⟩
  rotate_right
  · have hne : i ≠ j := fun z => by
      rw [z, hj] at hi
      cases hi
    rw [List.getElem?_set_ne hne, List.getElem?_set_ne hne]
    exact ⟨rfl, n⟩
  · by_cases hj : i = j
    · subst hj
      have hl : i < e.length := by
        have := (List.getElem?_eq_some_iff.mp h1).1
        simpa using this
      rw [List.getElem?_set_self hl] at h1
      cases h1
      exact ⟨v, List.getElem?_set_self (by rw [R.len]; exact hl), r⟩
    · rw [List.getElem?_set_ne hj] at h1
      rw [List.getElem?_set_ne hj]
      exact R.vals j d' h1 h2
  · have hj : i ≠ j := fun z => by
      subst z
      rw [hi] at h2
      cases h2
    rw [List.getElem?_set_ne hj] at h1
    rw [List.getElem?_set_ne hj]
    exact R.owns j d' h1 h2
/-- names forgotten -/
theorem ER.sub {e' : Env} {σ' : L2.St} (R : ER K A H0 ow O σ H e) (hl : σ'.length = e'.length) (h : ∀ (i : Nat) (d : D), e'[i]? = some (some d) → e[i]? = some (some d) ∧ σ'[i]? = σ[i]?) (hx : ∀ q : Xh, ow.x = some q → σ'[q.i]? = σ[q.i]?) : ER K A H0 ow O σ' H e' :=
  ⟨hl, R.a0, R.same, fun i d h1 h2 => by rw [(h i d h1).2]; exact R.vals i d (h i d h1).1 h2, fun i d h1 h2 => by rw [(h i d h1).2]; exact R.owns i d (h i d h1).1 h2, R.fresh, R.inj, R.pin, fun q hq => by
    obtain ⟨h1, h2, h3, h4⟩ := R.exq q hq
    exact ⟨h1, (hx q hq).trans h2, fun d z => h3 d (h _ d z).1, h4⟩⟩
end
theorem wipe_env (vs : List Nat) (e : Env) (i : Nat) (d : D) (h : (wipe e vs)[i]? = some (some d)) : e[i]? = some (some d) ∧ i ∉ vs := by
  induction vs with
  | nil => exact ⟨h, by simp⟩
  | cons j r ih =>
    unfold wipe at h
    by_cases hj : j = i
    · subst hj
      by_cases hl : j < (wipe e r).length
      · rw [List.getElem?_set_self hl] at h
        cases h
      · rw [List.getElem?_eq_none (by simp; omega)] at h
        cases h
    · rw [List.getElem?_set_ne hj] at h
      obtain ⟨a, b⟩ := ih h
      exact ⟨a, by simp [b, Ne.symm hj]⟩
theorem wipe_len (vs : List Nat) (e : Env) : (wipe e vs).length = e.length := by
  induction vs with
  | nil => rfl
  | cons j r ih => unfold wipe; simp [ih]
theorem ER.wipe {K : Frag} {A : AS} {H0 : Base} {ow : Ow} {O : OW} {σ : L2.St} {H : Hp} {e : Env} (R : ER K A H0 ow O σ H e) (vs : List Nat) (hx : ow.x = none) : ER K A H0 ow O (L2.wipe σ vs) H (Py.wipe e vs) :=
  R.sub (by rw [L2.wipe_length, wipe_len, R.len]) (fun i d h => ⟨(wipe_env vs e i d h).1, L2.wipe_out (wipe_env vs e i d h).2⟩) fun q hq => by
    rw [hx] at hq
    cases hq
/-! ### readings -/
def Out {α : Type} (r : Res α) (good : α → Prop) (bad : String → List (String × D) → Prop) : Prop := match r with
  | .ok a => good a
  | .exc c fs => bad c fs
  | .stuck => False
theorem Out.bind {α β : Type} {r : Res α} {f : α → Res β} {good : β → Prop} {bad : String → List (String × D) → Prop} (h : Out (r >>= f) good bad) : Out r (fun a => Out (f a) good bad) bad := by
  cases r with
  | ok a => exact h
  | exc c fs => exact h
  | stuck => exact h
theorem Out.imp {α : Type} {r : Res α} {good good' : α → Prop} {bad bad' : String → List (String × D) → Prop} (h : Out r good bad) (hg : ∀ a, r = .ok a → good a → good' a) (hb : ∀ c fs, bad c fs → bad' c fs) : Out r good' bad' := by
  cases r with
  | ok a => exact hg a rfl h
  | exc c fs => exact hb c fs h
  | stuck => exact h
theorem Out.good {α : Type} {r : Res α} {good good' : α → Prop} {bad : String → List (String × D) → Prop} (h : Out r good bad) (hg : ∀ a, good a → good' a) : Out r good' bad := h.imp (fun a _ => hg a) fun _ _ x => x
/-- what an exception must show that leaves an expression -/
def badE (K : Frag) (W : WX) (A : AS) (O : OW) (σ : L2.St) (H : Hp) (c : String) (fs : List (String × D)) : Prop :=
  ∀ da H' fvs, Same H H' → H' da = some (.xd fvs) → RepF K (AO A O) H' fs fvs → W (.ref (ca K c)) (some da) σ H'
theorem badE.to {K : Frag} {W : WX} {A : AS} {O : OW} {σ : L2.St} {H H1 : Hp} (s : Same H H1) {c : String} {fs : List (String × D)} (h : badE K W A O σ H c fs) : badE K W A O σ H1 c fs := fun da H' fvs s' => h da H' fvs (s.trans s')
theorem Out.to {K : Frag} {W : WX} {A : AS} {O : OW} {σ : L2.St} {H H1 : Hp} {α : Type} {r : Res α} {good : α → Prop} (s : Same H H1) (h : Out r good (badE K W A O σ H)) : Out r good (badE K W A O σ H1) := h.imp (fun _ _ x => x) fun _ _ x => x.to s
/-- a value that may be a name's own list or object: what is within it is clean -/
def RepW (K : Frag) (A : AS) (H : Hp) : D → V → Prop
  | .lst xs, v => ∃ a vs, v = .ref a ∧ Rd H a (.lst vs) ∧ RepL K A H xs vs
  | .ins c fs, v => ∃ a dx fvs, v = .ref a ∧ H a = some (.ins (ca K c) dx fvs) ∧ RepF K A H fs fvs
  | .dic t kvs, v => ∃ a, v = .ref a ∧ DicAt K A H a t kvs
  | d, v => Rep K A H d v
theorem RepW.of {K : Frag} {A : AS} {H : Hp} {d : D} {v : V} (h : Rep K A H d v) : RepW K A H d v := by
  cases d with
  | lst xs =>
    simp only [Rep] at h
    obtain ⟨a, vs, e, _, q, r⟩ := h
    exact ⟨a, vs, e, q, r⟩
  | ins c fs =>
    simp only [Rep] at h
    obtain ⟨a, dx, fvs, e, _, q, r⟩ := h
    exact ⟨a, dx, fvs, e, q, r⟩
  | dic t kvs =>
    obtain ⟨a, e, _, q⟩ := rep_dic.mp h
    exact ⟨a, e, q⟩
  | _ => exact h
theorem RepW.none {K : Frag} {A : AS} {H : Hp} {d : D} {v : V} (h : RepW K A H d v) : Rep K (fun _ => False) H d v := by
  have z : Mv A H (fun _ => False) H := Mv.less fun _ x => x.elim
  cases d with
  | lst xs =>
    obtain ⟨a, vs, e, q, r⟩ := h
    simp only [Rep]
    exact ⟨a, vs, e, fun x => x, q, RepL.move z _ _ r⟩
  | ins c fs =>
    obtain ⟨a, dx, fvs, e, q, r⟩ := h
    simp only [Rep]
    exact ⟨a, dx, fvs, e, fun x => x, q, RepF.move z _ _ r⟩
  | dic t kvs =>
    obtain ⟨a, e, q⟩ := h
    exact rep_dic.mpr ⟨a, e, fun x => x, q.move z rfl⟩
  | _ => exact Rep.move z _ _ h
/-- a relation between data and values, under what is to be avoided -/
abbrev RR := AS → Hp → D → V → Prop
/-- an expression that computes m -/
def tG (R : RR) (K : Frag) (W : WX) (ow : Ow) (m : EM) : TE := fun σ H Q => ∃ A H0 O e, ER K A H0 ow O σ H e ∧
  Out (m e) (fun d => ∀ v H', Same H H' → R (AO A O) H' d v → Q v H') (badE K W A O σ H)
/-- .. clean -/
abbrev tE (K : Frag) (W : WX) (ow : Ow) (m : EM) : TE := tG (Rep K) K W ow m
/-- .. to be read only -/
abbrev tW (K : Frag) (W : WX) (ow : Ow) (m : EM) : TE := tG (RepW K) K W ow m
/-- .. a new list -/
def tF (K : Frag) (W : WX) (ow : Ow) (m : EM) : TE := fun σ H Q => ∃ A H0 O e, ER K A H0 ow O σ H e ∧
  Out (m e) (fun d => ∀ a H', H a = none → Same H H' → OwnAt K (fun b => AO A O b ∨ b = a) H' a d → Q (.ref a) H') (badE K W A O σ H)
def tT (K : Frag) (W : WX) (ow : Ow) (m : TM) : TT := fun σ H Q => ∃ A H0 O e, ER K A H0 ow O σ H e ∧
  Out (m e) (fun b => ∀ H', Same H H' → Q b H') (badE K W A O σ H)
def tA (R : RR) (K : Frag) (W : WX) (ow : Ow) (m : AM) : TA := fun σ H Q => ∃ A H0 O e, ER K A H0 ow O σ H e ∧
  Out (m e) (fun ds => ∀ vs H', Same H H' → Paired (fun v d => R (AO A O) H' d v) vs ds → Q vs H') (badE K W A O σ H)
section
variable {X : Cx} {K : Frag} {W : WX} {A : AS} {H0 : Base} {ow : Ow}
theorem PE.of {e : Expr} {t t' : TE} (h : PE X e t) (k : ∀ σ H Q, t' σ H Q → t σ H Q) : PE X e t' := ⟨fun pins s σ H Q I q => h.run pins s σ H Q I (k σ H Q q)⟩
theorem PT.of {e : Expr} {t t' : TT} (h : PT X e t) (k : ∀ σ H Q, t' σ H Q → t σ H Q) : PT X e t' := ⟨fun pins s σ H Q I q => h.run pins s σ H Q I (k σ H Q q)⟩
theorem PW.of {e : Expr} {t t' : TT} (h : PW X e t) (k : ∀ σ H Q, t' σ H Q → t σ H Q) : PW X e t' := ⟨fun wh pins s σ H Q I q => h.run wh pins s σ H Q I (k σ H Q q)⟩
theorem PA.of {e : List Expr} {t t' : TA} (h : PA X e t) (k : ∀ σ H Q, t' σ H Q → t σ H Q) : PA X e t' := ⟨fun pos pins s σ H Q I q => h.run pos pins s σ H Q I (k σ H Q q)⟩
theorem PS.of {e : Stmt} {t t' : TS} (h : PS X e t) (k : ∀ D σ H, t' D σ H → t D σ H) : PS X e t' := ⟨fun pins s σ H D I q => h.run pins s σ H D I (k D σ H q)⟩
theorem PSs.of {e : List Stmt} {t t' : TS} (h : PSs X e t) (k : ∀ D σ H, t' D σ H → t D σ H) : PSs X e t' := ⟨fun pins s σ H D I q => h.run pins s σ H D I (k D σ H q)⟩
theorem w_of {e : Expr} {m : EM} (h : PE X e (tE K W ow m)) : PE X e (tW K W ow m) := PE.of h fun σ H Q ⟨A, H0, O, en, R, q⟩ => ⟨A, H0, O, en, R, q.good fun d k v H' s r => k v H' s (RepW.of r)⟩
theorem e_of {e : Expr} {m : EM} (h : PE X e (tF K W ow m)) : PE X e (tE K W ow m) := PE.of h fun σ H Q ⟨A, H0, O, en, R, q⟩ => ⟨A, H0, O, en, R, q.good fun d k a H' n s r => by
  refine k (.ref a) H' s ?_
  have na : ¬ AO A O a := fun z => R.there a z n
  have mv : Mv (fun b => AO A O b ∨ b = a) H' (AO A O) H' := Mv.less fun b x => .inl x
  exact r.rep mv na⟩
/-! names, constants -/
theorem x_var {i : Nat} {e : Expr} (h : PE X e (tVar i)) (hi : ow i = false) : PE X e (tE K W ow (var i)) := PE.of h fun σ H Q ⟨A, H0, O, en, R, q⟩ => by
  unfold var at q
  split at q
  · rename_i d hd
    obtain ⟨v, e1, r⟩ := R.vals i d hd hi
    exact ⟨v, e1, q v H (Same.refl H) r⟩
  · exact q.elim
/-- a name's own list, read -/
theorem x_own {i : Nat} {e : Expr} (h : PE X e (tVar i)) : PE X e (tW K W ow (var i)) := PE.of h fun σ H Q ⟨A, H0, O, en, R, q⟩ => by
  unfold var at q
  split at q
  · rename_i d hd
    cases hi : ow i with
    | false =>
      obtain ⟨v, e1, r⟩ := R.vals i d hd hi
      exact ⟨v, e1, q v H (Same.refl H) (RepW.of r)⟩
    | true =>
      obtain ⟨a, _, e1, r⟩ := R.owns i d hd hi
      refine ⟨.ref a, e1, q _ H (Same.refl H) ?_⟩
      cases d with
      | lst ds =>
        obtain ⟨vs, e2, r⟩ := r
        exact ⟨a, vs, rfl, .inl e2, r⟩
      | ins c fs =>
        obtain ⟨dx, fvs, e2, r⟩ := r
        exact ⟨a, dx, fvs, rfl, e2, r⟩
      | dic t kvs => exact ⟨a, rfl, r⟩
      | _ => exact r.elim
  · exact q.elim
/-- data that need no object -/
def flat : D → Option V
  | .non => some .non
  | .bl b => some (.bl b)
  | .int i => some (.int i)
  | .str s => some (.str (Str.ofString s))
  | _ => none
theorem flat_rep {d : D} {v : V} (h : flat d = some v) (A : AS) (H : Hp) : Rep K A H d v := by
  cases d <;> simp only [flat, Option.some.injEq] at h <;> first | exact h.symm | cases h
theorem x_cst {e : Expr} {d : D} {v : V} (h : PE X e (tC v)) (hf : flat d = some v) : PE X e (tE K W ow (cst d)) := PE.of h fun σ H Q ⟨A, H0, O, en, R, q⟩ => q v H (Same.refl H) (flat_rep hf _ _)
theorem x_int {i j pos} : PE X (.Constant (.int i) j pos) (tE K W ow (cst (.int i))) := x_cst pe_int rfl
theorem x_bl {i j pos} : PE X (.Constant (.bool i) j pos) (tE K W ow (cst (.bl i))) := x_cst pe_bl rfl
theorem x_non {j pos} : PE X (.Constant .none j pos) (tE K W ow (cst .non)) := x_cst pe_non rfl
theorem x_str {s : String} {j pos} : PE X (.Constant (.str (Str.ofString s)) j pos) (tE K W ow (cst (.str s))) := x_cst pe_str rfl
end
end Py
/-! Dicts: their keys in the heap, look-ups, stores. -/
namespace Py
open PySem L2
/-! ### keys -/
mutual
theorem hk_nk : ∀ (n : Nat) (d : D), hk n d = true → ∃ k, nk d = some k ∧ k.depth ≤ n
  | n, .non, _ => ⟨.none, by simp [nk], by simp [NestedKey.depth]⟩
  | n, .bl b, _ => ⟨.num (b2i b), by simp [nk], by simp [NestedKey.depth]⟩
  | n, .int i, _ => ⟨.num i, by simp [nk], by simp [NestedKey.depth]⟩
  | n + 1, .tup xs, h => by
    simp only [hk] at h
    obtain ⟨ks, h1, h2⟩ := hk_nkL n xs h
    exact ⟨.tup ks, by simp [nk, h1], by simp only [NestedKey.depth]; omega⟩
  | 0, .tup xs, h => by simp [hk] at h
  | n, .str _, h => by cases n <;> simp [hk] at h
  | n, .lst _, h => by cases n <;> simp [hk] at h
  | n, .dic _ _, h => by cases n <;> simp [hk] at h
  | n, .ins _ _, h => by cases n <;> simp [hk] at h
theorem hk_nkL : ∀ (n : Nat) (ds : List D), ds.all (hk n) = true → ∃ ks, nkL ds = some ks ∧ NestedKey.depthAll ks ≤ n
  | n, [], _ => ⟨[], by simp [nkL], by simp [NestedKey.depthAll]⟩
  | n, d :: ds, h => by
    simp only [List.all_cons, Bool.and_eq_true] at h
    obtain ⟨k, h1, h2⟩ := hk_nk n d h.1
    obtain ⟨ks, h3, h4⟩ := hk_nkL n ds h.2
    exact ⟨k :: ks, by simp [nkL, h1, h3], by simp only [NestedKey.depthAll]; omega⟩
end
theorem nkL_cons {d : D} {ds : List D} {ks : List NestedKey} (h : nkL (d :: ds) = some ks) : ∃ k r, nk d = some k ∧ nkL ds = some r ∧ ks = k :: r := by
  simp only [nkL] at h
  split at h
  · rename_i k r e1 e2
    exact ⟨k, r, e1, e2, (Option.some.inj h).symm⟩
  · cases h
mutual
theorem nk_hash (w w' : World) : ∀ (d : D) (k : NestedKey), nk d = some k → k.hash w = k.hash w'
  | .non, k, h => by simp only [nk, Option.some.injEq] at h; subst h; simp [NestedKey.hash]
  | .bl b, k, h => by simp only [nk, Option.some.injEq] at h; subst h; simp [NestedKey.hash]
  | .int b, k, h => by simp only [nk, Option.some.injEq] at h; subst h; simp [NestedKey.hash]
  | .tup xs, k, h => by
    simp only [nk, Option.map_eq_some_iff] at h
    obtain ⟨ks, h1, rfl⟩ := h
    simp only [NestedKey.hash]
    rw [nk_hashL w w' xs ks h1]
  | .str _, k, h => by simp [nk] at h
  | .lst _, k, h => by simp [nk] at h
  | .dic _ _, k, h => by simp [nk] at h
  | .ins _ _, k, h => by simp [nk] at h
theorem nk_hashL (w w' : World) : ∀ (ds : List D) (ks : List NestedKey), nkL ds = some ks → NestedKey.hashes w ks = NestedKey.hashes w' ks
  | [], ks, h => by simp only [nkL, Option.some.injEq] at h; subst h; simp [NestedKey.hashes]
  | d :: ds, ks, h => by
    obtain ⟨k, r, h1, h2, rfl⟩ := nkL_cons h
    simp only [NestedKey.hashes]
    rw [nk_hash w w' d k h1, nk_hashL w w' ds r h2]
end
mutual
theorem nk_eqv : ∀ (d e : D) (k j : NestedKey), nk d = some k → nk e = some j → eqv d e = NestedKey.beq k j
  | .non, e, k, j, h, h' => by
    simp only [nk, Option.some.injEq] at h
    subst h
    cases e <;> simp only [nk, Option.some.injEq, reduceCtorEq, Option.map_eq_some_iff] at h' <;> first | (subst h'; simp [eqv, NestedKey.beq]) | (obtain ⟨_, _, rfl⟩ := h'; simp [eqv, NestedKey.beq])
  | .bl b, e, k, j, h, h' => by
    simp only [nk, Option.some.injEq] at h
    subst h
    cases e <;> simp only [nk, Option.some.injEq, reduceCtorEq, Option.map_eq_some_iff] at h' <;> first | (subst h'; simp [eqv, NestedKey.beq]; try rfl) | (obtain ⟨_, _, rfl⟩ := h'; simp [eqv, NestedKey.beq])
    rename_i c
    cases b <;> cases c <;> simp [b2i]
  | .int i, e, k, j, h, h' => by
    simp only [nk, Option.some.injEq] at h
    subst h
    cases e <;> simp only [nk, Option.some.injEq, reduceCtorEq, Option.map_eq_some_iff] at h' <;> first | (subst h'; simp [eqv, NestedKey.beq]; try rfl) | (obtain ⟨_, _, rfl⟩ := h'; simp [eqv, NestedKey.beq])
  | .tup xs, e, k, j, h, h' => by
    simp only [nk, Option.map_eq_some_iff] at h
    obtain ⟨ks, h1, rfl⟩ := h
    cases e <;> simp only [nk, Option.some.injEq, reduceCtorEq, Option.map_eq_some_iff] at h' <;> first | (subst h'; simp [eqv, NestedKey.beq]; done) | skip
    rename_i ys
    obtain ⟨js, h2, rfl⟩ := h'
    simp only [eqv, NestedKey.beq]
    exact nk_eqvL xs ys ks js h1 h2
  | .str _, e, k, j, h, _ => by simp [nk] at h
  | .lst _, e, k, j, h, _ => by simp [nk] at h
  | .dic _ _, e, k, j, h, _ => by simp [nk] at h
  | .ins _ _, e, k, j, h, _ => by simp [nk] at h
theorem nk_eqvL : ∀ (ds es : List D) (ks js : List NestedKey), nkL ds = some ks → nkL es = some js → eqv.eqvL ds es = NestedKey.beqAll ks js
  | [], [], ks, js, h, h' => by
    simp only [nkL, Option.some.injEq] at h h'
    subst h h'
    simp [eqv.eqvL, NestedKey.beqAll]
  | [], e :: es, ks, js, h, h' => by
    obtain ⟨k, r, h1, h2, rfl⟩ := nkL_cons h'
    simp only [nkL, Option.some.injEq] at h
    subst h
    simp [eqv.eqvL, NestedKey.beqAll]
  | d :: ds, [], ks, js, h, h' => by
    obtain ⟨k, r, h1, h2, rfl⟩ := nkL_cons h
    simp only [nkL, Option.some.injEq] at h'
    subst h'
    simp [eqv.eqvL, NestedKey.beqAll]
  | d :: ds, e :: es, ks, js, h, h' => by
    obtain ⟨k, r, h1, h2, rfl⟩ := nkL_cons h
    obtain ⟨k', r', h1', h2', rfl⟩ := nkL_cons h'
    simp only [eqv.eqvL, NestedKey.beqAll]
    rw [nk_eqv d e k k' h1 h1', nk_eqvL ds es r r' h2 h2']
end
theorem nk_eq {d e : D} {k j : NestedKey} (h : nk d = some k) (h' : nk e = some j) : eqv d e = decide (k = j) := by
  rw [NestedKey.decide_eq]
  exact nk_eqv d e k j h h'
theorem keyT {k : D} (h : keyOk true k = true) : ∃ c, nk k = some c ∧ c.depth ≤ 8 := by
  cases k <;> simp only [keyOk, reduceCtorEq] at h <;> first | cases h | exact hk_nk 8 _ h
theorem keyK {k : D} (h : keyOk false k = true) : ∃ c, kvK k = some c := by
  cases k <;> first | exact ⟨_, rfl⟩ | simp [keyOk] at h
theorem kv_eq {d e : D} {k j : Key} (h : kvK d = some k) (h' : kvK e = some j) : eqv d e = decide (k = j) := by
  cases d <;> simp only [kvK, Option.some.injEq, reduceCtorEq] at h <;> subst h <;> cases e <;> simp only [kvK, Option.some.injEq, reduceCtorEq] at h' <;> subst h' <;> simp [eqv]
  · rename_i a b
    by_cases q : a = b <;> simp [q]
  · rename_i a b
    by_cases q : a = b
    · simp [q]
    · have q2 : ¬ Str.ofString a = Str.ofString b := fun z => q (ofS_inj z)
      simp [q, q2]
theorem kv_rep {K : Frag} {A : AS} {H : Hp} {d : D} {k : Key} {v : V} (h : kvK d = some k) (r : Rep K A H d v) : v = kV k := by
  cases d <;> simp only [kvK, Option.some.injEq, reduceCtorEq] at h <;> subst h <;> simp only [Rep] at r <;> exact r
/-! ### in the heap -/
section
variable {X : Cx} {pins : List (Addr × Obj)} {σ : L2.St} {H : Hp} {s : Shared} {A : AS} {a : Addr}
mutual
theorem nest_of (I : Inv X pins σ H s) : ∀ (d : D) (v : V) (u : Value) (k : NestedKey), nk d = some k → Rep X.K A H d v → RelV v u → NestedIs s.heap k u
  | .non, v, u, k, h, r, e => by
    simp only [nk, Option.some.injEq] at h
    simp only [Rep] at r
    subst h r
    cases (show u = Value.none from e)
    exact .none
  | .bl b, v, u, k, h, r, e => by
    simp only [nk, Option.some.injEq] at h
    simp only [Rep] at r
    subst h r
    cases (show u = Value.bool b from e)
    exact .bool (by cases b <;> rfl)
  | .int i, v, u, k, h, r, e => by
    simp only [nk, Option.some.injEq] at h
    simp only [Rep] at r
    subst h r
    obtain ⟨t, rfl⟩ := (show ∃ t, u = Value.int i t from e)
    exact .int _ _
  | .tup xs, v, u, k, h, r, e => by
    simp only [nk, Option.map_eq_some_iff] at h
    obtain ⟨ks, h1, rfl⟩ := h
    simp only [Rep] at r
    obtain ⟨b, vs, rfl, q, r⟩ := r
    cases (show u = Value.ref b from e)
    obtain ⟨its, rv, ⟨o, g1, g2, n, g3⟩, _⟩ := I.tuple q
    exact .tup g1 g2 g3 (by simpa using nest_ofL I xs vs its ks h1 r rv)
  | .str _, v, u, k, h, _, _ => by simp [nk] at h
  | .lst _, v, u, k, h, _, _ => by simp [nk] at h
  | .dic _ _, v, u, k, h, _, _ => by simp [nk] at h
  | .ins _ _, v, u, k, h, _, _ => by simp [nk] at h
theorem nest_ofL (I : Inv X pins σ H s) : ∀ (ds : List D) (vs : List V) (us : List Value) (ks : List NestedKey), nkL ds = some ks → RepL X.K A H ds vs → Vals vs us → NestedAll s.heap ks us
  | [], vs, us, ks, h, r, e => by
    simp only [nkL, Option.some.injEq] at h
    simp only [RepL] at r
    subst h r
    cases e
    exact .nil
  | d :: ds, vs, us, ks, h, r, e => by
    obtain ⟨k, r', h1, h2, rfl⟩ := nkL_cons h
    simp only [RepL] at r
    obtain ⟨v, rs, rfl, q1, q2⟩ := r
    cases e with
    | cons e1 e2 => exact .cons (nest_of I d v _ k h1 q1 e1) (nest_ofL I ds rs _ r' h2 q2 e2)
end
theorem is_of (I : Inv X pins σ H s) {k : D} {c : NestedKey} {b : Addr} (h : keyOk true k = true) (hc : nk k = some c) (r : Rep X.K A H k (.ref b)) : (nestedKind X.prog X.w).is s.heap c b := by
  obtain ⟨c', h1, h2⟩ := keyT h
  rw [hc] at h1
  cases h1
  exact ⟨nest_of I k _ _ c hc r rfl, h2⟩
/-! ### look-ups -/
abbrev PT3 : List (NestedKey × Addr × V) → List (NestedKey × Addr × Value) → Prop := Paired fun p q => p.1 = q.1 ∧ p.2.1 = q.2.1 ∧ RelV p.2.2 q.2.2
theorem find_T {K : Frag} {k : D} {c : NestedKey} (hc : nk k = some c) : ∀ {kvs : List (D × D)} {es : List (NestedKey × Addr × V)} {xs : List (NestedKey × Addr × Value)}, RepT K A H kvs es → PT3 es xs →
    match find k kvs with | some d => ∃ b u v, atKey xs c = some (b, u) ∧ RelV v u ∧ Rep K A H d v | none => atKey xs c = none
  | [], es, xs, r, p => by
    simp only [RepT] at r
    subst r
    cases p
    rfl
  | (k0, d0) :: kvs, es, xs, r, p => by
    simp only [RepT] at r
    obtain ⟨c0, b, v, q, rfl, ⟨h0, _⟩, h1, h2, h3⟩ := r
    cases p with
    | @cons _ y _ ys hp t =>
      obtain ⟨p1, p2, p3⟩ := hp
      simp only [find, nk_eq h0 hc]
      have p1' : c0 = y.1 := p1
      by_cases e : c0 = c
      · rw [decide_eq_true e]
        refine ⟨y.2.1, y.2.2, v, ?_, p3, h2⟩
        unfold atKey
        rw [List.find?_cons_of_pos (by simpa using p1'.symm.trans e)]
        rfl
      · rw [decide_eq_false e]
        have e2 : atKey (y :: ys) c = atKey ys c := by
          unfold atKey
          rw [List.find?_cons_of_neg (by simpa using fun z => e (p1'.trans z))]
        rw [e2]
        exact find_T hc h3 t
theorem find_K {K : Frag} {k : D} {c : Key} (hc : kvK k = some c) : ∀ {kvs : List (D × D)} {ks : List (Key × V)}, RepK K A H kvs ks →
    match find k kvs with | some d => ∃ v, valV ks c = some v ∧ Rep K A H d v | none => valV ks c = none
  | [], ks, r => by
    simp only [RepK] at r
    subst r
    rfl
  | (k0, d0) :: kvs, ks, r => by
    simp only [RepK] at r
    obtain ⟨c0, v, q, rfl, h0, h2, h3⟩ := r
    simp only [find, kv_eq h0 hc]
    by_cases e : c0 = c
    · rw [decide_eq_true e, valV_pos (p := (c0, v)) e]
      exact ⟨v, rfl, h2⟩
    · rw [decide_eq_false e, valV_neg (p := (c0, v)) e]
      exact find_K hc h3
theorem dic_rd (I : Inv X pins σ H s) {es : List (NestedKey × Addr × V)} {kvs : List (D × D)} (e : H a = some (dicT a es)) (r : RepT X.K A H kvs es) : es.length ≤ sizeLine ∧ (a == sysModules) = false ∧ ∃ xs, PT3 es xs ∧ s.heap.DictOfH (nestedKind X.prog X.w) a xs ∧
    ∃ o en ep, s.heap.get? a = some o ∧ o.ExactDict ∧ o.data = .dict en ep ∧ (∀ w : World, en.toList = xs.map (entW w)) ∧ (xs.map (·.1)).Nodup := by
  obtain ⟨⟨h1, h2, xs, h3, o, en, ep, g1, g2, g3, g4, g5⟩, _, _⟩ := (show ObjOk X.prog X.w H s.heap a (dicT a es) from I.hok a _ e)
  refine ⟨h2, h1, xs, h3, ⟨o, en, ep, g1, g2, g3, g4 X.w, ?_, g5⟩, o, en, ep, g1, g2, g3, g4, g5⟩
  have all : ∀ {kvs : List (D × D)} {es : List (NestedKey × Addr × V)} {xs : List (NestedKey × Addr × Value)}, RepT X.K A H kvs es → PT3 es xs → ∀ x ∈ xs, (nestedKind X.prog X.w).is s.heap x.1 x.2.1 := by
    intro kvs
    induction kvs with
    | nil =>
      intro es xs r p
      simp only [RepT] at r
      subst r
      cases p
      intro x hx
      cases hx
    | cons kd kvs ih =>
      intro es xs r p
      obtain ⟨k0, d0⟩ := kd
      simp only [RepT] at r
      obtain ⟨c0, b, v, q, rfl, ⟨h0, hk0⟩, h1, h2, h3⟩ := r
      cases p with
      | cons hp t =>
        obtain ⟨p1, p2, p3⟩ := hp
        intro x hx
        rcases List.mem_cons.mp hx with z | hx
        · subst z
          have := is_of I hk0 h0 h1
          have p1' : c0 = x.1 := p1
          have p2' : b = x.2.1 := p2
          rw [p1', p2'] at this
          exact this
        · exact ih h3 t x hx
  exact all r h3
theorem dic_type (I : Inv X pins σ H s) {t : Bool} {kvs : List (D × D)} (g : DicAt X.K A H a t kvs) : s.TypeIs (.ref a) "dict" := by
  rcases g with ⟨rfl, ks, e, r⟩ | ⟨rfl, es, e, r⟩
  · obtain ⟨_, _, vs, _, dd⟩ := dk_of I.hok e
    exact dd.typeIs
  · obtain ⟨z, hsm, xs, rel, dd, _⟩ := dic_rd I e r
    exact dd.typeIs
/-- len(d) -/
theorem dic_len {B : Around} {E : Value → Shared → Prop} {t : Bool} {kvs : List (D × D)} {Q : Value → Shared → Prop} (I : Inv X pins σ H s) (g : DicAt X.K A H a t kvs) (hl : ∀ {kvs : List (D × D)} {es : List (NestedKey × Addr × V)}, RepT X.K A H kvs es → es.length = kvs.length) (hl2 : ∀ {kvs : List (D × D)} {es : List (Key × V)}, RepK X.K A H kvs es → es.length = kvs.length)
    (h : ∀ t' s', Inv X pins σ H s' → Q (.int kvs.length t') s') : wpAny (model X.prog X.w) B (PySem.call (.builtin "len") [.ref a]) Q E s := by
  rcases g with ⟨rfl, ks, e, r⟩ | ⟨rfl, es, e, r⟩
  · refine d_len I (.inl e) fun t' s' I' => ?_
    rw [hl2 r]
    exact h t' s' I'
  · obtain ⟨z, hsm, xs, rel, dd, _⟩ := dic_rd I e r
    have hm : s.heap.DictKeyed (nestedKind X.prog X.w) a (pairsH xs) := ⟨xs, dd, rfl⟩
    have h1 : (pairsH xs).length = kvs.length := by rw [pairsH_length, ← Paired.length rel, hl r]
    refine PyProof.Rows.call_len_slot (n := (pairsH xs).length) hm.typeIs F.slot_dict_len (fun Q' hq => len_keyed hsm hm hq) (by omega) ?_ ?_
    · have hz := sizeLine_eq
      have := Paired.length rel
      rw [pairsH_length]
      omega
    · rw [h1]
      exact h _ _ ((I.tok _).tok _)
/-- d[k], there -/
theorem dic_get {B : Around} {E : Value → Shared → Prop} {t : Bool} {kvs : List (D × D)} {k d : D} {y : V} {u : Value} {Q : Value → Shared → Prop} (hu : B.units + 16 < cLine) (I : Inv X pins σ H s) (g : DicAt X.K A H a t kvs) (hk : keyOk t k = true) (rk : Rep X.K A H k y) (ry : RelV y u)
    (hf : find k kvs = some d) (h : ∀ v w' s', Inv X pins σ H s' → RelV v w' → Rep X.K A H d v → Q w' s') : wpAny (model X.prog X.w) B (getItem (.ref a) u) Q E s := by
  rcases g with ⟨rfl, ks, e, r⟩ | ⟨rfl, es, e, r⟩
  · obtain ⟨c, hc⟩ := keyK hk
    have q := find_K hc r
    rw [hf] at q
    obtain ⟨v, hv, rv⟩ := q
    have hy := kv_rep hc rk
    subst hy
    refine d_getItem (by omega) I (hv ▸ DGet.k e) ry fun w' s' I' r' => h v w' s' I' r' rv
  · obtain ⟨c, hc, hd⟩ := keyT hk
    obtain ⟨z, hsm, xs, rel, dd, _⟩ := dic_rd I e r
    have q := find_T hc r rel
    rw [hf] at q
    obtain ⟨b, u', v, hat, rv, rd⟩ := q
    have hk' := hk
    cases k with
    | tup xs' =>
      simp only [Rep] at rk
      obtain ⟨b', vs, rfl, q1, q2⟩ := rk
      cases (show u = Value.ref b' from ry)
      refine wpAny_getItem_heap (by show B.units + 1 + 8 < cLine; omega) (is_of (A := A) I hk' hc (by simp only [Rep]; exact ⟨b', vs, rfl, q1, q2⟩)) dd hat ?_
      exact h v u' _ (I.tok _) rv rd
    | _ => simp [keyOk] at hk
theorem dic_in {B : Around} {E : Value → Shared → Prop} {t : Bool} {kvs : List (D × D)} {k : D} {y : V} {u : Value} {Q : Value → Shared → Prop} (hu : B.units + 16 < cLine) (I : Inv X pins σ H s) (g : DicAt X.K A H a t kvs) (hk : keyOk t k = true) (rk : Rep X.K A H k y) (ry : RelV y u)
    (h : ∀ s', Inv X pins σ H s' → Q (.bool (find k kvs).isSome) s') : wpAny (model X.prog X.w) B (compareOp .In u (.ref a)) Q E s := by
  rcases g with ⟨rfl, ks, e, r⟩ | ⟨rfl, es, e, r⟩
  · obtain ⟨c, hc⟩ := keyK hk
    have q := find_K hc r
    have hy := kv_rep hc rk
    subst hy
    refine d_in (by omega) I (DGet.k e) ry fun s' I' => ?_
    have z : (valV ks c).isSome = (find k kvs).isSome := by
      cases hf : find k kvs with
      | none => rw [hf] at q; rw [show valV ks c = none from q]; rfl
      | some d => rw [hf] at q; obtain ⟨v, hv, _⟩ := q; rw [hv]; rfl
    rw [z]
    exact h s' I'
  · obtain ⟨c, hc, hd⟩ := keyT hk
    obtain ⟨z, hsm, xs, rel, dd, _⟩ := dic_rd I e r
    have q := find_T hc r rel
    have hk' := hk
    cases k with
    | tup xs' =>
      simp only [Rep] at rk
      obtain ⟨b', vs, rfl, q1, q2⟩ := rk
      cases (show u = Value.ref b' from ry)
      refine wpAny_in_heap (by show B.units + 1 + 8 < cLine; omega) (is_of (A := A) I hk' hc (by simp only [Rep]; exact ⟨b', vs, rfl, q1, q2⟩)) hsm dd ?_
      have z : (atKey xs c).isSome = (find (.tup xs') kvs).isSome := by
        cases hf : find (.tup xs') kvs with
        | none => rw [hf] at q; rw [show atKey xs c = none from q]; rfl
        | some d => rw [hf] at q; obtain ⟨b, u', v, hv, _⟩ := q; rw [hv]; rfl
      rw [z]
      exact h _ (I.tok _)
    | _ => simp [keyOk] at hk
theorem dic_notIn {B : Around} {E : Value → Shared → Prop} {t : Bool} {kvs : List (D × D)} {k : D} {y : V} {u : Value} {Q : Value → Shared → Prop} (hu : B.units + 16 < cLine) (I : Inv X pins σ H s) (g : DicAt X.K A H a t kvs) (hk : keyOk t k = true) (rk : Rep X.K A H k y) (ry : RelV y u)
    (h : ∀ s', Inv X pins σ H s' → Q (.bool (!(find k kvs).isSome)) s') : wpAny (model X.prog X.w) B (compareOp .NotIn u (.ref a)) Q E s := by
  rcases g with ⟨rfl, ks, e, r⟩ | ⟨rfl, es, e, r⟩
  · obtain ⟨c, hc⟩ := keyK hk
    have q := find_K hc r
    have hy := kv_rep hc rk
    subst hy
    refine d_notIn (by omega) I (DGet.k e) ry fun s' I' => ?_
    have z : (valV ks c).isSome = (find k kvs).isSome := by
      cases hf : find k kvs with
      | none => rw [hf] at q; rw [show valV ks c = none from q]; rfl
      | some d => rw [hf] at q; obtain ⟨v, hv, _⟩ := q; rw [hv]; rfl
    rw [z]
    exact h s' I'
  · obtain ⟨c, hc, hd⟩ := keyT hk
    obtain ⟨z, hsm, xs, rel, dd, _⟩ := dic_rd I e r
    have q := find_T hc r rel
    have hk' := hk
    cases k with
    | tup xs' =>
      simp only [Rep] at rk
      obtain ⟨b', vs, rfl, q1, q2⟩ := rk
      cases (show u = Value.ref b' from ry)
      refine PyProof.Rows.wpAny_notIn_heap (by show B.units + 1 + 8 < cLine; omega) (is_of (A := A) I hk' hc (by simp only [Rep]; exact ⟨b', vs, rfl, q1, q2⟩)) hsm dd ?_
      have z : (atKey xs c).isSome = (find (.tup xs') kvs).isSome := by
        cases hf : find (.tup xs') kvs with
        | none => rw [hf] at q; rw [show atKey xs c = none from q]; rfl
        | some d => rw [hf] at q; obtain ⟨b, u', v, hv, _⟩ := q; rw [hv]; rfl
      rw [z]
      exact h _ (I.tok _)
    | _ => simp [keyOk] at hk
/-! ### stores -/
def putE (es : List (NestedKey × Addr × V)) (c : NestedKey) (b : Addr) (v : V) : List (NestedKey × Addr × V) :=
  if es.any (fun x => decide (x.1 = c)) then es.map (fun x => if x.1 = c then (x.1, x.2.1, v) else x) else es ++ [(c, b, v)]
theorem map_no {α β : Type} [DecidableEq α] (c : α) (f : α × β → α × β) : ∀ (es : List (α × β)), ¬ c ∈ es.map (·.1) → es.map (fun x => if x.1 = c then f x else x) = es
  | [], _ => rfl
  | x :: es, h => by
    simp only [List.map_cons, List.mem_cons, not_or] at h
    simp only [List.map_cons]
    rw [if_neg fun z => h.1 z.symm, map_no c f es h.2]
theorem put_T {K : Frag} {k d : D} {c : NestedKey} {b : Addr} {v : V} (hc : nk k = some c) (hk : keyOk true k = true) (rk : Rep K A H k (.ref b)) (rd : Rep K A H d v) : ∀ {kvs : List (D × D)} {es : List (NestedKey × Addr × V)}, RepT K A H kvs es → (es.map (·.1)).Nodup →
    RepT K A H (putD k d kvs) (putE es c b v)
  | [], es, r, _ => by
    simp only [RepT] at r
    subst r
    show RepT K A H [(k, d)] [(c, b, v)]
    simp only [RepT]
    exact ⟨c, b, v, [], rfl, ⟨hc, hk⟩, rk, rd, rfl⟩
  | (k0, d0) :: kvs, es, r, nd => by
    simp only [RepT] at r
    obtain ⟨c0, b0, v0, q, rfl, ⟨h0, hk0⟩, h1, h2, h3⟩ := r
    simp only [List.map_cons, List.nodup_cons] at nd
    simp only [putD, nk_eq h0 hc]
    by_cases e : c0 = c
    · rw [decide_eq_true e, if_pos rfl]
      have e1 : putE ((c0, b0, v0) :: q) c b v = (c0, b0, v) :: q := by
        unfold putE
        rw [if_pos (by simp [e])]
        simp only [List.map_cons]
        rw [if_pos e, map_no c (fun x => (x.1, x.2.1, v)) q (by rw [← e]; exact nd.1)]
      rw [e1]
      simp only [RepT]
      exact ⟨c0, b0, v, q, rfl, ⟨h0, hk0⟩, h1, rd, h3⟩
    · rw [decide_eq_false e, if_neg (by decide)]
      have e1 : putE ((c0, b0, v0) :: q) c b v = (c0, b0, v0) :: putE q c b v := by
        unfold putE
        simp only [List.any_cons, decide_eq_false e, Bool.false_or]
        split
        · simp only [List.map_cons]
          rw [if_neg e]
        · rfl
      rw [e1]
      simp only [RepT]
      exact ⟨c0, b0, v0, _, rfl, ⟨h0, hk0⟩, h1, h2, put_T hc hk rk rd h3 nd.2⟩
theorem put_K {K : Frag} {k d : D} {c : Key} {v : V} (hc : kvK k = some c) (rd : Rep K A H d v) : ∀ {kvs : List (D × D)} {ks : List (Key × V)}, RepK K A H kvs ks → (ks.map (·.1)).Nodup → RepK K A H (putD k d kvs) (putK ks c v)
  | [], ks, r, _ => by
    simp only [RepK] at r
    subst r
    show RepK K A H [(k, d)] [(c, v)]
    simp only [RepK]
    exact ⟨c, v, [], rfl, hc, rd, rfl⟩
  | (k0, d0) :: kvs, ks, r, nd => by
    simp only [RepK] at r
    obtain ⟨c0, v0, q, rfl, h0, h2, h3⟩ := r
    simp only [List.map_cons, List.nodup_cons] at nd
    simp only [putD, kv_eq h0 hc]
    by_cases e : c0 = c
    · rw [decide_eq_true e, if_pos rfl]
      have e1 : putK ((c0, v0) :: q) c v = (c0, v) :: q := by
        unfold putK
        rw [if_pos (by simp [e])]
        simp only [List.map_cons]
        rw [if_pos e, map_no c (fun x => (x.1, v)) q (by rw [← e]; exact nd.1)]
      rw [e1]
      simp only [RepK]
      exact ⟨c0, v, q, rfl, h0, rd, h3⟩
    · rw [decide_eq_false e, if_neg (by decide)]
      have e1 : putK ((c0, v0) :: q) c v = (c0, v0) :: putK q c v := by
        unfold putK
        simp only [List.any_cons, decide_eq_false e, Bool.false_or]
        split
        · simp only [List.map_cons]
          rw [if_neg e]
        · rfl
      rw [e1]
      simp only [RepK]
      exact ⟨c0, v0, _, rfl, h0, h2, put_K hc rd h3 nd.2⟩
theorem pt_keys : ∀ {es : List (NestedKey × Addr × V)} {xs : List (NestedKey × Addr × Value)}, PT3 es xs → es.map (·.1) = xs.map (·.1)
  | _, _, .nil => rfl
  | _, _, .cons h t => by
    simp only [List.map_cons]
    rw [h.1, pt_keys t]
theorem pt_any {es : List (NestedKey × Addr × V)} {xs : List (NestedKey × Addr × Value)} (p : PT3 es xs) (c : NestedKey) : (es.any fun x => decide (x.1 = c)) = (atKey xs c).isSome := by
  induction p with
  | nil => rfl
  | @cons x y es xs h t ih =>
    simp only [List.any_cons]
    have h1 : x.1 = y.1 := h.1
    by_cases e : y.1 = c
    · have e2 : atKey (y :: xs) c = some y.2 := by
        unfold atKey
        rw [List.find?_cons_of_pos (by simpa using e)]
        rfl
      rw [e2, h1, decide_eq_true e]
      rfl
    · have e2 : atKey (y :: xs) c = atKey xs c := by
        unfold atKey
        rw [List.find?_cons_of_neg (by simpa using e)]
      rw [e2, h1, decide_eq_false e, Bool.false_or, ih]
theorem pt_put {es : List (NestedKey × Addr × V)} {xs : List (NestedKey × Addr × Value)} (p : PT3 es xs) (c : NestedKey) (b : Addr) {v : V} {u : Value} (r : RelV v u) : PT3 (putE es c b v) (storedH xs c b u) := by
  unfold putE storedH
  rw [pt_any p]
  split
  · rename_i h
    clear h
    induction p with
    | nil => exact .nil
    | @cons x y es xs h t ih =>
      simp only [List.map_cons]
      refine .cons ?_ ih
      unfold putAt
      have h1 : x.1 = y.1 := h.1
      by_cases e : y.1 = c
      · rw [if_pos (h1.trans e), if_pos e]
        exact ⟨h1, h.2.1, r⟩
      · rw [if_neg fun z => e (h1.symm.trans z), if_neg e]
        exact h
  · exact Paired.snoc p ⟨rfl, rfl, r⟩
theorem putE_len (es : List (NestedKey × Addr × V)) (c : NestedKey) (b : Addr) (v : V) : (putE es c b v).length ≤ es.length + 1 := by
  unfold putE
  split <;> simp
theorem RepT.len {K : Frag} : ∀ {kvs : List (D × D)} {es : List (NestedKey × Addr × V)}, RepT K A H kvs es → es.length = kvs.length
  | [], es, r => by
    simp only [RepT] at r
    subst r
    rfl
  | (k, d) :: kvs, es, r => by
    simp only [RepT] at r
    obtain ⟨c0, b0, v0, q, rfl, _, _, _, h3⟩ := r
    simp [RepT.len h3]
theorem RepK.len {K : Frag} : ∀ {kvs : List (D × D)} {es : List (Key × V)}, RepK K A H kvs es → es.length = kvs.length
  | [], es, r => by
    simp only [RepK] at r
    subst r
    rfl
  | (k, d) :: kvs, es, r => by
    simp only [RepK] at r
    obtain ⟨c0, v0, q, rfl, _, _, h3⟩ := r
    simp [RepK.len h3]
theorem RepT.hash {K : Frag} (w w' : World) : ∀ {kvs : List (D × D)} {es : List (NestedKey × Addr × V)}, RepT K A H kvs es → ∀ x ∈ es, x.1.hash w = x.1.hash w'
  | [], es, r, x, hx => by
    simp only [RepT] at r
    subst r
    cases hx
  | (k, d) :: kvs, es, r, x, hx => by
    simp only [RepT] at r
    obtain ⟨c0, b0, v0, q, rfl, ⟨h0, _⟩, _, _, h3⟩ := r
    rcases List.mem_cons.mp hx with z | hx
    · subst z
      exact nk_hash w w' k c0 h0
    · exact RepT.hash w w' h3 x hx
theorem ent_any {w w' : World} : ∀ {es : List (NestedKey × Addr × V)} {xs : List (NestedKey × Addr × Value)}, PT3 es xs → (∀ x ∈ es, x.1.hash w = x.1.hash w') → xs.map (entW w) = xs.map (entW w')
  | _, _, .nil, _ => rfl
  | _, _, @Paired.cons _ _ _ x y es xs h t, hh => by
    simp only [List.map_cons]
    rw [ent_any t fun z hz => hh z (List.mem_cons_of_mem _ hz)]
    have h1 : x.1 = y.1 := h.1
    have h2 := hh x List.mem_cons_self
    rw [h1] at h2
    unfold entW
    rw [h2]
/-- d[k] = v -/
def rSetN (K : Frag) : TSet := fun o i v H Q => ∃ A t kvs k d a, o = .ref a ∧ A a ∧ DicAt K A H a t kvs ∧ Rep K A H k i ∧ Rep K A H d v ∧ keyOk t k = true ∧ kvs.length < SZ ∧ ∀ ob, DicAt K A (upd H a ob) a t (putD k d kvs) → Q (upd H a ob)
theorem set_dic (hu : X.A.units + 16 < cLine) : PSet X (rSetN X.K) := by
  intro pins s σ H o i v ov iv u Q I ro ri rv ⟨A, t, kvs, k, d, a, eo, hA, g, rk, rd, hk, hl, q⟩
  subst eo
  cases (show ov = Value.ref a from ro)
  rcases g with ⟨rfl, ks, e, r⟩ | ⟨rfl, es, e, r⟩
  · obtain ⟨c, hc⟩ := keyK hk
    have hy := kv_rep hc rk
    subst hy
    have hlen := r.len
    have nd : (ks.map (·.1)).Nodup := by
      obtain ⟨_, _, vs, rel, _, _, _, _, _, _, _, _, nd⟩ := dk_of I.hok e
      rw [rel.keys]
      exact nd
    refine d_setItem (by omega) I (DPut.k e (by rw [hlen]; exact hl)) ri rv fun s' I' => ⟨_, I', q _ ?_⟩
    have mv : Mv A H A (upd H a (.dK (putK ks c v))) := ⟨fun b hb => .inl hb, fun b ob e3 hb => by
      rw [upd_ne]
      · exact e3
      · intro z
        subst z
        rcases hb with hb | hb
        · exact hb hA
        · rw [e] at e3
          cases e3
          exact hb⟩
    exact .inl ⟨rfl, _, upd_same, RepK.move mv _ _ (put_K hc rd r nd)⟩
  · obtain ⟨c, hc, hd⟩ := keyT hk
    obtain ⟨z, hsm, xs, rel, dd, o0, en, ep, g1, g2, g3, g4, g5⟩ := dic_rd I e r
    have hk' := hk
    have nd : (es.map (·.1)).Nodup := by
      rw [pt_keys rel]
      exact g5
    cases k with
    | tup xs' =>
      have rk0 := rk
      simp only [Rep] at rk
      obtain ⟨b', vs, rfl, q1, q2⟩ := rk
      cases (show iv = Value.ref b' from ri)
      have hlen := r.len
      have hsz : SZ = sizeLine := rfl
      have hz : xs.length ≤ sizeLine := by rw [← Paired.length rel]; exact z
      have rp := put_T hc hk rk0 rd r nd
      have pp := pt_put rel c b' rv
      refine wpAny_setItem_heap (hsz := hz) (by show X.A.units + 1 + 8 < cLine; omega) (is_of (A := A) I hk hc rk0) dd fun h' dd' hs => ?_
      obtain ⟨q0, en', ep', hq, h2, h3, h4, _, h5⟩ := dd'
      have mv : Mv A H A (upd H a (dicT a (putE es c b' v))) := ⟨fun b hb => .inl hb, fun b ob e3 hb => by
        rw [upd_ne]
        · exact e3
        · intro z
          subst z
          rcases hb with hb | hb
          · exact hb hA
          · rw [e] at e3
            cases e3
            exact hb⟩
      refine ⟨upd H a (dicT a (putE es c b' v)), ?_, q _ (.inr ⟨rfl, _, upd_same, RepT.move mv _ _ rp⟩)⟩
      refine d_write I (by rw [e]; exact True.intro) hs ⟨q0, hq⟩ ⟨⟨hsm, ?_, _, pp, q0, en', ep', hq, h2, h3, fun w => ?_, h5⟩, ⟨q0, hq⟩, ?_⟩
      · have := putE_len es c b' v
        omega
      · have h4' : en'.toList = (storedH xs c b' u).map (entW X.w) := h4
        rw [h4']
        exact ent_any pp (rp.hash X.w w)
      · rintro h1 h2 ⟨y1, y2, xs', y3, o', en2, ep2, z1, z2⟩ hk2
        exact ⟨y1, y2, xs', y3, o', en2, ep2, hk2 _ z1, z2⟩
    | _ => simp [keyOk] at hk
/-- of a list or a dict -/
def rSetX (K : Frag) : TSet := fun o i v H Q => rSetL o i v H Q ∨ rSetN K o i v H Q
theorem set_any (hu : X.A.units + 16 < cLine) : PSet X (rSetX X.K) := fun pins s σ H o i v ov iv u Q I ro ri rv h => by
  rcases h with h | h
  · exact set_list pins s σ H o i v ov iv u Q I ro ri rv h
  · exact set_dic hu pins s σ H o i v ov iv u Q I ro ri rv h
end
end Py
/-! Operators. -/
namespace Py
open PySem L2
/-! ### data of the library -/
mutual
def toPy : D → PyData
  | .non => .none
  | .bl b => .bool b
  | .int i => .int i
  | .str s => .str (Str.ofString s)
  | .tup xs => .tuple (toPyL xs)
  | .lst xs => .list (toPyL xs)
  | .dic _ _ => .none
  | .ins _ _ => .none
def toPyL : List D → List PyData
  | [] => []
  | d :: r => toPy d :: toPyL r
end
theorem str_len (s : String) : (Str.ofString s).length = s.length := by
  rw [Str.ofString_eq_toList]
  simp [Str.length, String.length_toList]
theorem str_ok (s : String) : PySem.PyData.strOk (Str.ofString s) = true := by
  rw [Str.ofString_eq_toList]
  simp only [PySem.PyData.strOk, List.size_toArray, List.all_toArray', List.all_map]
  refine List.all_eq_true.mpr fun c _ => ?_
  simp only [Function.comp, decide_eq_true_eq]
  rcases c.valid with h | h
  · have h2 : c.toNat < 55296 := h
    omega
  · have h2 : c.toNat < 1114112 := h.2
    omega
mutual
theorem dp_of {K : Frag} {H : Hp} : ∀ (n : Nat) (d : D) (v : V), pl n d = true → Rep K (fun _ => False) H d v → Dp K H v (toPy d) ∧ (toPy d).canLay0 = true ∧ (toPy d).depth ≤ n
  | n, .non, v, _, h => by
    simp only [Rep] at h
    subst h
    exact ⟨.non, by simp [toPy, PyData.canLay0], by simp [toPy, PyData.depth]⟩
  | n, .bl b, v, _, h => by
    simp only [Rep] at h
    subst h
    exact ⟨.bl b, by simp [toPy, PyData.canLay0], by simp [toPy, PyData.depth]⟩
  | n, .int b, v, _, h => by
    simp only [Rep] at h
    subst h
    exact ⟨.int b, by simp [toPy, PyData.canLay0], by simp [toPy, PyData.depth]⟩
  | n, .str b, v, _, h => by
    simp only [Rep] at h
    subst h
    exact ⟨.str _, by simp [toPy, PyData.canLay0, str_ok], by simp [toPy, PyData.depth]⟩
  | n + 1, .tup xs, v, p, h => by
    simp only [Rep] at h
    obtain ⟨a, vs, rfl, q, r⟩ := h
    simp only [pl] at p
    obtain ⟨h1, h2, h3⟩ := dp_ofL n xs vs p r
    refine ⟨?_, by simpa [toPy, PyData.canLay0] using h2, by simp only [toPy, PyData.depth]; omega⟩
    simp only [toPy]
    exact .tup q h1
  | n + 1, .lst xs, v, p, h => by
    simp only [Rep] at h
    obtain ⟨a, vs, rfl, _, q, r⟩ := h
    simp only [pl] at p
    obtain ⟨h1, h2, h3⟩ := dp_ofL n xs vs p r
    refine ⟨?_, by simpa [toPy, PyData.canLay0] using h2, by simp only [toPy, PyData.depth]; omega⟩
    simp only [toPy]
    exact .lst (.inl q) h1
  | 0, .tup xs, v, p, h => by simp [pl] at p
  | 0, .lst xs, v, p, h => by simp [pl] at p
  | n, .dic _ _, v, p, h => by cases n <;> simp [pl] at p
  | n, .ins _ _, v, p, h => by cases n <;> simp [pl] at p
theorem dp_ofL {K : Frag} {H : Hp} : ∀ (n : Nat) (ds : List D) (vs : List V), ds.all (pl n) = true → RepL K (fun _ => False) H ds vs → DpAll K H vs (toPyL ds) ∧ PyData.canLayAll0 (toPyL ds) = true ∧ PyData.depthAll (toPyL ds) ≤ n
  | n, [], vs, _, h => by
    simp only [RepL] at h
    subst h
    exact ⟨.nil, by simp [toPyL, PyData.canLayAll0], by simp [toPyL, PyData.depthAll]⟩
  | n, d :: ds, vs, p, h => by
    simp only [RepL] at h
    obtain ⟨v, r, rfl, h1, h2⟩ := h
    simp only [List.all_cons, Bool.and_eq_true] at p
    obtain ⟨a1, a2, a3⟩ := dp_of n d v p.1 h1
    obtain ⟨b1, b2, b3⟩ := dp_ofL n ds r p.2 h2
    refine ⟨.cons a1 b1, by simp [toPyL, PyData.canLayAll0, a2, b2], by simp only [toPyL, PyData.depthAll]; omega⟩
end
mutual
theorem eqv_py : ∀ (d e : D) (n m : Nat), pl n d = true → pl m e = true → PyData.eqv (toPy d) (toPy e) = eqv d e
  | .non, e, n, m, _, q => by cases e <;> first | (cases m <;> simp [pl] at q; done) | simp [toPy, PyData.eqv, eqv]
  | .bl b, e, n, m, _, _ => by cases e <;> simp [toPy, PyData.eqv, eqv, b2i]
  | .int b, e, n, m, _, _ => by cases e <;> simp [toPy, PyData.eqv, eqv, b2i]
  | .str b, e, n, m, _, _ => by
    cases e with
    | str c =>
      simp only [toPy, PyData.eqv, eqv]
      by_cases q : b = c
      · subst q
        simp
      · rw [beq_eq_false_iff_ne.mpr q]
        exact beq_eq_false_iff_ne.mpr fun z => q (ofS_inj z)
    | _ => simp [toPy, PyData.eqv, eqv]
  | .tup xs, e, n, m, p, q => by
    cases e with
    | tup ys =>
      cases n with
      | zero => simp [pl] at p
      | succ n =>
        cases m with
        | zero => simp [pl] at q
        | succ m =>
          simp only [toPy, PyData.eqv, eqv]
          exact eqv_pyL xs ys n m (by simpa only [pl] using p) (by simpa only [pl] using q)
    | _ => simp [toPy, PyData.eqv, eqv]
  | .lst xs, e, n, m, p, q => by
    cases e with
    | lst ys =>
      cases n with
      | zero => simp [pl] at p
      | succ n =>
        cases m with
        | zero => simp [pl] at q
        | succ m =>
          simp only [toPy, PyData.eqv, eqv]
          exact eqv_pyL xs ys n m (by simpa only [pl] using p) (by simpa only [pl] using q)
    | _ => simp [toPy, PyData.eqv, eqv]
  | .dic _ _, e, n, m, p, _ => by cases n <;> simp [pl] at p
  | .ins _ _, e, n, m, p, _ => by cases n <;> simp [pl] at p
theorem eqv_pyL : ∀ (ds es : List D) (n m : Nat), ds.all (pl n) = true → es.all (pl m) = true → PyData.eqvAll (toPyL ds) (toPyL es) = eqv.eqvL ds es
  | [], [], _, _, _, _ => by simp [toPyL, PyData.eqvAll, eqv.eqvL]
  | [], _ :: _, _, _, _, _ => by simp [toPyL, PyData.eqvAll, eqv.eqvL]
  | _ :: _, [], _, _, _, _ => by simp [toPyL, PyData.eqvAll, eqv.eqvL]
  | d :: ds, e :: es, n, m, p, q => by
    simp only [List.all_cons, Bool.and_eq_true] at p q
    simp only [toPyL, PyData.eqvAll, eqv.eqvL]
    rw [eqv_py d e n m p.1 q.1, eqv_pyL ds es n m p.2 q.2]
end
/-! ### two operands, one operand -/
def r2 (K : Frag) (f : D → D → Res D) : R2 := fun x y H Q => ∃ A d1 d2 d, RepW K A H d1 x ∧ RepW K A H d2 y ∧ (∀ a, A a → H a ≠ none) ∧ f d1 d2 = .ok d ∧ ∀ v H', Same H H' → Rep K A H' d v → Q v H'
def r1 (K : Frag) (f : D → Res D) : V → Hp → VK → Prop := fun x H Q => ∃ A d1 d, RepW K A H d1 x ∧ (∀ a, A a → H a ≠ none) ∧ f d1 = .ok d ∧ ∀ v H', Same H H' → Rep K A H' d v → Q v H'
def NoEx2 (f : D → D → Res D) : Prop := ∀ x y c fs, f x y ≠ .exc c fs
def NoEx1 (f : D → Res D) : Prop := ∀ x c fs, f x ≠ .exc c fs
theorem r2_of {K : Frag} {A : AS} {W : WX} {O : OW} {σ : L2.St} {H0 : Base} {f : D → D → Res D} (hf : NoEx2 f) {x y : V} {H : Hp} {Q : VK} {d1 d2 : D} (h1 : RepW K A H d1 x) (h2 : RepW K A H d2 y) (ha : ∀ a, A a → H a ≠ none)
    {bad : String → List (String × D) → Prop} (h : Out (f d1 d2) (fun d => ∀ v H', Same H H' → Rep K A H' d v → Q v H') bad) : r2 K f x y H Q := by
  cases e : f d1 d2 with
  | ok d =>
    rw [e] at h
    exact ⟨A, d1, d2, d, h1, h2, ha, e, h⟩
  | exc c fs => exact absurd e (hf _ _ _ _)
  | stuck =>
    rw [e] at h
    exact h.elim
theorem RepW.move {K : Frag} {A : AS} {H H' : Hp} (s : Same H H') {d : D} {v : V} (h : RepW K A H d v) : RepW K A H' d v := by
  cases d with
  | lst xs =>
    obtain ⟨a, vs, e, q, r⟩ := h
    refine ⟨a, vs, e, ?_, RepL.move (Mv.same s) _ _ r⟩
    rcases q with q | ⟨o, q⟩
    · exact .inl (s _ _ q)
    · exact .inr ⟨o, s _ _ q⟩
  | ins c fs =>
    obtain ⟨a, dx, fvs, e, q, r⟩ := h
    exact ⟨a, dx, fvs, e, s _ _ q, RepF.move (Mv.same s) _ _ r⟩
  | dic t kvs =>
    obtain ⟨a, e, q⟩ := h
    refine ⟨a, e, ?_⟩
    rcases q with ⟨ht, ks, q, r⟩ | ⟨ht, es, q, r⟩
    · exact .inl ⟨ht, ks, s _ _ q, RepK.move (Mv.same s) _ _ r⟩
    · exact .inr ⟨ht, es, s _ _ q, RepT.move (Mv.same s) _ _ r⟩
  | _ => exact Rep.move (Mv.same s) _ _ h
section
variable {X : Cx} {W : WX} {A : AS} {H0 : Base} {ow : Ow} {a b : Expr} {ma mb : EM} {pos : Pos}
theorem two_of {f : D → D → Res D} (hf : NoEx2 f) {σ : L2.St} {H : Hp} {Q : VK} (h : tE X.K W ow (bin f ma mb) σ H Q) : tOp (r2 X.K f) (tW X.K W ow ma) (tW X.K W ow mb) σ H Q := by
  obtain ⟨A, H0, O, en, R, q⟩ := h
  refine ⟨A, H0, O, en, R, (Out.bind q).good fun d1 q1 v1 H1 s1 r1 => ?_⟩
  refine ⟨A, H0, O, en, R.to s1, ((Out.bind q1).to s1).good fun d2 q2 v2 H2 s2 r2 => ?_⟩
  have R2 := (R.to s1).to s2
  exact r2_of (W := W) (O := O) (σ := σ) (H0 := H0) hf (r1.move s2) r2 R2.there (q2.good fun d k v H' s' r => k v H' ((s1.trans s2).trans s') r)
theorem one_of {f : D → Res D} (hf : NoEx1 f) {σ : L2.St} {H : Hp} {Q : VK} (h : tE X.K W ow (un f ma) σ H Q) : tUn (r1 X.K f) (tW X.K W ow ma) σ H Q := by
  obtain ⟨A, H0, O, en, R, q⟩ := h
  refine ⟨A, H0, O, en, R, (Out.bind q).good fun d1 q1 v1 H1 s1 r1 => ?_⟩
  have R2 := R.to s1
  cases e : f d1 with
  | ok d =>
    rw [e] at q1
    exact ⟨_, d1, d, r1, R2.there, e, fun v H' s' r => q1 v H' (s1.trans s') r⟩
  | exc c fs => exact absurd e (hf _ _ _)
  | stuck =>
    rw [e] at q1
    exact q1.elim
theorem x_bin {op : Operator} {f : D → D → Res D} (ho : OpR X (binaryOp op) (r2 X.K f)) (hf : NoEx2 f) (ha : PE X a (tW X.K W ow ma)) (hb : PE X b (tW X.K W ow mb)) : PE X (.BinOp a op b pos) (tE X.K W ow (bin f ma mb)) :=
  PE.of (pe_op ho ha hb) fun _ _ _ h => two_of hf h
theorem x_un {op : UnaryOp} {f : D → Res D} (ho : UnR X (unaryOp op) (r1 X.K f)) (hf : NoEx1 f) (ha : PE X a (tW X.K W ow ma)) : PE X (.UnaryOp op a pos) (tE X.K W ow (un f ma)) :=
  PE.of (pe_un ho ha) fun _ _ _ h => one_of hf h
theorem x_cmp {op : CmpOp} {f : D → D → Res D} (ho : OpR X (compareOp op) (r2 X.K f)) (hf : NoEx2 f) (ha : PE X a (tW X.K W ow ma)) (hb : PE X b (tW X.K W ow mb)) (hm : behindInMarks op b = false) : PE X (.Compare a [op] [b] pos) (tE X.K W ow (bin f ma mb)) :=
  PE.of (pe_cmpR ho ha hb hm) fun _ _ _ h => two_of hf h
/-! ### ints -/
theorem rep_int {K : Frag} {A : AS} {H : Hp} {i : Int} {v : V} (h : RepW K A H (.int i) v) : v = .int i := h
theorem imp2 {g : Value → Value → Sem Value} {r r' : R2} (h : OpR X g r) (k : ∀ x y H Q, r' x y H Q → r x y H Q) : OpR X g r' := fun pins s σ H x y v u Q I rx ry q => h pins s σ H x y v u Q I rx ry (k x y H Q q)
theorem imp1 {g : Value → Sem Value} {r r' : V → Hp → VK → Prop} (h : UnR X g r) (k : ∀ x H Q, r' x H Q → r x H Q) : UnR X g r' := fun pins s σ H x v Q I rx q => h pins s σ H x v Q I rx (k x H Q q)
theorem int_op {g : Value → Value → Sem Value} {f : D → D → Res D} {C : Int → Int → Prop} {z : Int → Int → V} {zd : Int → Int → D} (h : OpR X g (rI C z))
    (hz : ∀ i j, flat (zd i j) = some (z i j)) (hf : ∀ d1 d2 d, f d1 d2 = .ok d → ∃ i j, d1 = .int i ∧ d2 = .int j ∧ C i j ∧ d = zd i j) : OpR X g (r2 X.K f) := imp2 h fun x y H Q ⟨A, d1, d2, d, h1, h2, _, e, k⟩ => by
  obtain ⟨i, j, rfl, rfl, c, rfl⟩ := hf d1 d2 d e
  exact ⟨i, j, rep_int h1, rep_int h2, c, k _ H (Same.refl H) (flat_rep (hz i j) _ _)⟩
theorem rI_of {g : Value → Value → Sem Value} {z : Int → Int → V} (h : OpR X g (rI0 z)) : OpR X g (rI (fun _ _ => True) z) := imp2 h fun x y H Q ⟨i, j, e1, e2, _, q⟩ => ⟨i, j, e1, e2, q⟩
theorem y_sub : OpR X (binaryOp .Sub) (r2 X.K osub) := int_op (rI_of op_sub) (zd := fun i j => .int (i - j)) (fun _ _ => rfl) fun d1 d2 d e => by
  cases d1 <;> cases d2 <;> simp only [osub, Res.ok.injEq, reduceCtorEq] at e
  exact ⟨_, _, rfl, rfl, trivial, e.symm⟩
theorem y_mul : OpR X (binaryOp .Mult) (r2 X.K omul) := int_op op_mul (zd := fun i j => .int (i * j)) (fun _ _ => rfl) fun d1 d2 d e => by
  cases d1 <;> cases d2 <;> simp only [omul, reduceCtorEq] at e
  split at e
  · rename_i c
    refine ⟨_, _, rfl, rfl, ?_, ?_⟩
    · simp only [B64] at c
      unfold CMul
      have e64 : (2 : Int) ^ 64 = 18446744073709551616 := by decide
      rw [e64]
      omega
    · simp only [Res.ok.injEq] at e
      exact e.symm
  · cases e
theorem y_fdiv : OpR X (binaryOp .FloorDiv) (r2 X.K ofdiv) := int_op op_fdiv (zd := fun i j => .int (i / j)) (fun _ _ => rfl) fun d1 d2 d e => by
  cases d1 <;> cases d2 <;> simp only [ofdiv, reduceCtorEq] at e
  split at e
  · rename_i c
    simp only [Res.ok.injEq] at e
    exact ⟨_, _, rfl, rfl, c, e.symm⟩
  · cases e
theorem y_mod : OpR X (binaryOp .Mod) (r2 X.K omod) := int_op op_mod (zd := fun i j => .int (i % j)) (fun _ _ => rfl) fun d1 d2 d e => by
  cases d1 <;> cases d2 <;> simp only [omod, reduceCtorEq] at e
  split at e
  · rename_i c
    simp only [Res.ok.injEq] at e
    exact ⟨_, _, rfl, rfl, c, e.symm⟩
  · cases e
theorem y_pow : OpR X (binaryOp .Pow) (r2 X.K opow) := int_op op_pow (zd := fun i j => .int (i ^ j.toNat)) (fun _ _ => rfl) fun d1 d2 d e => by
  cases d1 <;> cases d2 <;> simp only [opow, reduceCtorEq] at e
  split at e
  · rename_i c
    simp only [Res.ok.injEq] at e
    refine ⟨_, _, rfl, rfl, ?_, e.symm⟩
    have e64 : (2 : Nat) ^ 64 = 18446744073709551616 := by decide
    unfold CPow
    rw [e64]
    exact c
  · cases e
theorem y_shl : OpR X (binaryOp .LShift) (r2 X.K oshl) := int_op op_shlW (zd := fun i j => .int (i * 2 ^ j.toNat)) (fun _ _ => rfl) fun d1 d2 d e => by
  cases d1 <;> cases d2 <;> simp only [oshl, reduceCtorEq] at e
  split at e
  · rename_i c
    simp only [Res.ok.injEq] at e
    refine ⟨_, _, rfl, rfl, ?_, e.symm⟩
    have e64 : (2 : Int) ^ 27 = 134217728 := by decide
    unfold CShl
    rw [e64]
    exact c
  · cases e
theorem y_shr : OpR X (binaryOp .RShift) (r2 X.K oshr) := int_op op_shr (zd := fun i j => .int (i / 2 ^ j.toNat)) (fun _ _ => rfl) fun d1 d2 d e => by
  cases d1 <;> cases d2 <;> simp only [oshr, reduceCtorEq] at e
  split at e
  · rename_i c
    simp only [Res.ok.injEq] at e
    exact ⟨_, _, rfl, rfl, c, e.symm⟩
  · cases e
theorem y_and : OpR X (binaryOp .BitAnd) (r2 X.K oand) := int_op (rI_of op_and) (zd := fun i j => .int (Builtin.bitAnd i j)) (fun _ _ => rfl) fun d1 d2 d e => by
  cases d1 <;> cases d2 <;> simp only [oand, Res.ok.injEq, reduceCtorEq] at e
  exact ⟨_, _, rfl, rfl, trivial, e.symm⟩
theorem y_lt : OpR X (compareOp .Lt) (r2 X.K olt) := int_op (rI_of op_lt) (zd := fun i j => .bl (decide (i < j))) (fun _ _ => rfl) fun d1 d2 d e => by
  cases d1 <;> cases d2 <;> simp only [olt, Res.ok.injEq, reduceCtorEq] at e
  exact ⟨_, _, rfl, rfl, trivial, e.symm⟩
theorem y_le : OpR X (compareOp .LtE) (r2 X.K ole) := int_op (rI_of op_le) (zd := fun i j => .bl (decide (i ≤ j))) (fun _ _ => rfl) fun d1 d2 d e => by
  cases d1 <;> cases d2 <;> simp only [ole, Res.ok.injEq, reduceCtorEq] at e
  exact ⟨_, _, rfl, rfl, trivial, e.symm⟩
theorem y_gt : OpR X (compareOp .Gt) (r2 X.K ogt) := int_op (rI_of op_gt) (zd := fun i j => .bl (decide (j < i))) (fun _ _ => rfl) fun d1 d2 d e => by
  cases d1 <;> cases d2 <;> simp only [ogt, Res.ok.injEq, reduceCtorEq] at e
  exact ⟨_, _, rfl, rfl, trivial, e.symm⟩
theorem y_ge : OpR X (compareOp .GtE) (r2 X.K oge) := int_op (rI_of op_ge) (zd := fun i j => .bl (decide (j ≤ i))) (fun _ _ => rfl) fun d1 d2 d e => by
  cases d1 <;> cases d2 <;> simp only [oge, Res.ok.injEq, reduceCtorEq] at e
  exact ⟨_, _, rfl, rfl, trivial, e.symm⟩
theorem y_neg : UnR X (unaryOp .USub) (r1 X.K oneg) := imp1 un_neg fun x H Q ⟨A, d1, d, h1, _, e, k⟩ => by
  cases d1 <;> simp only [oneg, Res.ok.injEq, reduceCtorEq] at e
  subst e
  exact ⟨_, rep_int h1, k _ H (Same.refl H) (flat_rep rfl _ _)⟩
/-! ### == and in -/
theorem y_eq (hu : X.A.units + 64 < cLine) : OpR X (compareOp .Eq) (r2 X.K oeq) := imp2 (op_eqD hu) fun x y H Q ⟨A, d1, d2, d, h1, h2, _, e, k⟩ => by
  unfold oeq at e
  split at e
  · rename_i c
    rw [Bool.and_eq_true] at c
    simp only [Res.ok.injEq] at e
    subst e
    obtain ⟨a1, a2, a3⟩ := dp_of 64 d1 x c.1 h1.none
    obtain ⟨b1, b2, b3⟩ := dp_of 64 d2 y c.2 h2.none
    refine ⟨_, _, a1, b1, ?_, ?_, ?_⟩
    · unfold SeqAt.shaped
      rw [a2, decide_eq_true a3]
      rfl
    · unfold SeqAt.shaped
      rw [b2, decide_eq_true b3]
      rfl
    · rw [eqv_py d1 d2 64 64 c.1 c.2]
      exact k _ H (Same.refl H) (flat_rep rfl _ _)
  · cases e
theorem y_ne (hu : X.A.units + 64 < cLine) : OpR X (compareOp .NotEq) (r2 X.K one) := imp2 (op_neD hu) fun x y H Q ⟨A, d1, d2, d, h1, h2, _, e, k⟩ => by
  unfold one at e
  split at e
  · rename_i c
    rw [Bool.and_eq_true] at c
    simp only [Res.ok.injEq] at e
    subst e
    obtain ⟨a1, a2, a3⟩ := dp_of 64 d1 x c.1 h1.none
    obtain ⟨b1, b2, b3⟩ := dp_of 64 d2 y c.2 h2.none
    refine ⟨_, _, a1, b1, ?_, ?_, ?_⟩
    · unfold SeqAt.shaped
      rw [a2, decide_eq_true a3]
      rfl
    · unfold SeqAt.shaped
      rw [b2, decide_eq_true b3]
      rfl
    · rw [eqv_py d1 d2 64 64 c.1 c.2]
      exact k _ H (Same.refl H) (flat_rep rfl _ _)
  · cases e
theorem flat_v {K : Frag} {A : AS} {H : Hp} {d : D} {v : V} (f : flatD d = true) (h : Rep K A H d v) : flatV v = true ∧ ∀ {e : D} {w : V}, flatD e = true → Rep K A H e w → eqV v w = eqv d e := by
  cases d <;> simp only [flatD, reduceCtorEq] at f <;> simp only [Rep] at h <;> subst h <;> refine ⟨rfl, ?_⟩ <;> intro e w fe he <;> cases e <;> simp only [flatD, reduceCtorEq] at fe <;> simp only [Rep] at he <;> subst he <;> simp only [eqV, eqv, b2i]
  rename_i b c
  by_cases q : b = c
  · subst q
    simp
  · rw [beq_eq_false_iff_ne.mpr q]
    exact beq_eq_false_iff_ne.mpr fun z => q (ofS_inj z)
theorem flat_all {K : Frag} {A : AS} {H : Hp} {x : D} {w : V} (fx : flatD x = true) (hx : Rep K A H x w) : ∀ {ds : List D} {vs : List V}, ds.all flatD = true → RepL K A H ds vs → vs.all flatV = true ∧ inV w vs = mem x ds
  | [], vs, _, h => by
    simp only [RepL] at h
    subst h
    exact ⟨rfl, rfl⟩
  | d :: ds, vs, f, h => by
    simp only [RepL] at h
    obtain ⟨v, r, rfl, h1, h2⟩ := h
    simp only [List.all_cons, Bool.and_eq_true] at f
    obtain ⟨a1, a2⟩ := flat_v f.1 h1
    obtain ⟨b1, b2⟩ := flat_all fx hx f.2 h2
    refine ⟨by simp only [List.all_cons, a1, b1, Bool.and_self], ?_⟩
    unfold inV at b2 ⊢
    simp only [List.any_cons, mem, a2 fx hx, b2]
theorem flatW {K : Frag} {A : AS} {H : Hp} {d : D} {v : V} (f : flatD d = true) (h : RepW K A H d v) : Rep K A H d v := by
  cases d <;> simp only [flatD, reduceCtorEq] at f <;> exact h
theorem in_of {K : Frag} {neg : Bool} {f : D → D → Res D} (hf : ∀ x y d, f x y = .ok d → ∃ ys, (y = .lst ys ∨ y = .tup ys) ∧ flatD x = true ∧ ys.all flatD = true ∧ d = .bl (if neg then !mem x ys else mem x ys)) :
    ∀ x y H Q, r2 K f x y H Q → rIn K neg x y H Q := fun x y H Q ⟨A, d1, d2, d, h1, h2, _, e, k⟩ => by
  obtain ⟨ys, hy, fx, fy, rfl⟩ := hf d1 d2 d e
  have g1 := flatW fx h1
  obtain ⟨a, vs, rfl, hq, r⟩ : ∃ a vs, y = .ref a ∧ (SqL K H a vs ∨ SqT K H a vs) ∧ RepL K A H ys vs := by
    rcases hy with rfl | rfl
    · obtain ⟨a, vs, e, q, r⟩ := h2
      exact ⟨a, vs, e, .inl (.inl q), r⟩
    · obtain ⟨a, vs, e, q, r⟩ := (by simpa only [RepW, Rep] using h2 : ∃ a vs, y = .ref a ∧ SqT K H a vs ∧ RepL K A H ys vs)
      exact ⟨a, vs, e, .inr q, r⟩
  obtain ⟨b1, b2⟩ := flat_all fx g1 fy r
  refine ⟨a, vs, rfl, hq, (flat_v fx g1).1, b1, ?_⟩
  rw [b2]
  exact k _ H (Same.refl H) (flat_rep rfl _ _)
def isDic : D → Bool
  | .dic _ _ => true
  | _ => false
theorem y_in (hu : X.A.units + 16 < cLine) : OpR X (compareOp .In) (r2 X.K oin) := by
  have base : OpR X (compareOp .In) (fun x y H Q => ∃ A d1 d2 d, isDic d2 = false ∧ RepW X.K A H d1 x ∧ RepW X.K A H d2 y ∧ (∀ a, A a → H a ≠ none) ∧ oin d1 d2 = .ok d ∧ ∀ v H', Same H H' → Rep X.K A H' d v → Q v H') :=
    imp2 op_in_seq fun x y H Q ⟨A, d1, d2, d, hd, h1, h2, h3, e, k⟩ => by
      have q : r2 X.K (fun a b => if isDic b then Res.stuck else oin a b) x y H Q := ⟨A, d1, d2, d, h1, h2, h3, by show (if isDic d2 = true then Res.stuck else oin d1 d2) = _; rw [hd]; exact e, k⟩
      refine in_of (f := fun a b => if isDic b then Res.stuck else oin a b) (neg := false) (fun x y d e => ?_) x y H Q q
      cases y with
      | tup xs =>
        have e : oin x (.tup xs) = .ok d := e
        simp only [oin] at e
        split at e
        · rename_i c
          rw [Bool.and_eq_true] at c
          simp only [Res.ok.injEq] at e
          exact ⟨xs, .inr rfl, c.1, c.2, e.symm⟩
        · cases e
      | lst xs =>
        have e : oin x (.lst xs) = .ok d := e
        simp only [oin] at e
        split at e
        · rename_i c
          rw [Bool.and_eq_true] at c
          simp only [Res.ok.injEq] at e
          exact ⟨xs, .inl rfl, c.1, c.2, e.symm⟩
        · cases e
      | _ => simp [oin, isDic] at e
  intro pins s σ H x y v u Q I rx ry ⟨A, d1, d2, d, h1, h2, h3, e, k⟩
  cases hd : isDic d2 with
  | false => exact base pins s σ H x y v u Q I rx ry ⟨A, d1, d2, d, hd, h1, h2, h3, e, k⟩
  | true =>
    cases d2 <;> simp only [isDic, reduceCtorEq] at hd
    rename_i t kvs
    simp only [oin] at e
    split at e
    · rename_i hk
      simp only [Res.ok.injEq] at e
      subst e
      obtain ⟨a, rfl, g⟩ := h2
      cases (show u = Value.ref a from ry)
      have h1' : Rep X.K A H d1 x := by
        cases d1 <;> first | exact h1 | (cases t <;> simp [keyOk] at hk)
      exact dic_in hu I g hk h1' rx fun s' I' => ⟨.bl (find d1 kvs).isSome, H, I', rfl, k _ H (Same.refl H) rfl⟩
    · cases e
theorem y_notin (hu : X.A.units + 16 < cLine) : OpR X (compareOp .NotIn) (r2 X.K onotin) := by
  have base : OpR X (compareOp .NotIn) (fun x y H Q => ∃ A d1 d2 d, isDic d2 = false ∧ RepW X.K A H d1 x ∧ RepW X.K A H d2 y ∧ (∀ a, A a → H a ≠ none) ∧ onotin d1 d2 = .ok d ∧ ∀ v H', Same H H' → Rep X.K A H' d v → Q v H') :=
    imp2 op_notIn_seq fun x y H Q ⟨A, d1, d2, d, hd, h1, h2, h3, e, k⟩ => by
      have q : r2 X.K (fun a b => if isDic b then Res.stuck else onotin a b) x y H Q := ⟨A, d1, d2, d, h1, h2, h3, by show (if isDic d2 = true then Res.stuck else onotin d1 d2) = _; rw [hd]; exact e, k⟩
      refine in_of (f := fun a b => if isDic b then Res.stuck else onotin a b) (neg := true) (fun x y d e => ?_) x y H Q q
      cases y with
      | tup xs =>
        have e : onotin x (.tup xs) = .ok d := e
        simp only [onotin] at e
        split at e
        · rename_i c
          rw [Bool.and_eq_true] at c
          simp only [Res.ok.injEq] at e
          exact ⟨xs, .inr rfl, c.1, c.2, e.symm⟩
        · cases e
      | lst xs =>
        have e : onotin x (.lst xs) = .ok d := e
        simp only [onotin] at e
        split at e
        · rename_i c
          rw [Bool.and_eq_true] at c
          simp only [Res.ok.injEq] at e
          exact ⟨xs, .inl rfl, c.1, c.2, e.symm⟩
        · cases e
      | _ => simp [onotin, isDic] at e
  intro pins s σ H x y v u Q I rx ry ⟨A, d1, d2, d, h1, h2, h3, e, k⟩
  cases hd : isDic d2 with
  | false => exact base pins s σ H x y v u Q I rx ry ⟨A, d1, d2, d, hd, h1, h2, h3, e, k⟩
  | true =>
    cases d2 <;> simp only [isDic, reduceCtorEq] at hd
    rename_i t kvs
    simp only [onotin] at e
    split at e
    · rename_i hk
      simp only [Res.ok.injEq] at e
      subst e
      obtain ⟨a, rfl, g⟩ := h2
      cases (show u = Value.ref a from ry)
      have h1' : Rep X.K A H d1 x := by
        cases d1 <;> first | exact h1 | (cases t <;> simp [keyOk] at hk)
      exact dic_notIn hu I g hk h1' rx fun s' I' => ⟨.bl (!(find d1 kvs).isSome), H, I', rfl, k _ H (Same.refl H) rfl⟩
    · cases e
/-! ### + -/
theorem RepL.empty {K : Frag} {A : AS} {H : Hp} {ds : List D} {vs : List V} (h : RepL K A H ds vs) : ds = [] ↔ vs = [] := by
  have := h.length
  constructor
  · intro e
    subst e
    exact List.eq_nil_of_length_eq_zero this.symm
  · intro e
    subst e
    exact List.eq_nil_of_length_eq_zero this
/-- a new object is clean -/
theorem new_same {H : Hp} {p : Addr} {o : HO} (h : H p = none) : Same H (upd H p o) := fun b u e => by
  rw [upd_ne (ne_of_none e h)]
  exact e
theorem new_tup {K : Frag} {A : AS} {H : Hp} {ds : List D} {vs : List V} (r : RepL K A H ds vs) {p : Addr} (h : H p = none) : Rep K A (upd H p (.tup vs)) (.tup ds) (.ref p) := by
  simp only [Rep]
  exact ⟨p, vs, rfl, .inl (.inl upd_same), RepL.move (Mv.same (new_same h)) _ _ r⟩
theorem new_lst {K : Frag} {A : AS} {H : Hp} (ha : ∀ a, A a → H a ≠ none) {ds : List D} {vs : List V} (r : RepL K A H ds vs) {p : Addr} (h : H p = none) : Rep K A (upd H p (.lst vs)) (.lst ds) (.ref p) := by
  simp only [Rep]
  exact ⟨p, vs, rfl, fun z => ha p z h, .inl upd_same, RepL.move (Mv.same (new_same h)) _ _ r⟩
theorem str_app (a b : String) : Str.ofString a ++ Str.ofString b = Str.ofString (a ++ b) := by
  simp only [Str.ofString_eq_toList]
  show Str.append _ _ = _
  simp [Str.append]
theorem lst_at {pins : List (Addr × Obj)} {σ : L2.St} {H : Hp} {s : Shared} (I : Inv X pins σ H s) {a : Addr} {vs : List V} (h : Rd H a (.lst vs)) :
    vs.length ≤ sizeLine ∧ ∃ (its : List Value) (n : Nat), Vals vs its ∧ s.heap.get? a = some { cls := .type "list", data := .seq its.toArray n } := h.ok I.hok
theorem y_add : OpR X (binaryOp .Add) (r2 X.K oadd) := by
  intro pins s σ H x y v u Q I rx ry ⟨A, d1, d2, d, h1, h2, ha, e, k⟩
  cases d1 with
  | int i =>
    cases d2 <;> simp only [oadd, Res.ok.injEq, reduceCtorEq] at e
    subst e
    exact op_add pins s σ H x y v u Q I rx ry ⟨_, _, rep_int h1, rep_int h2, k _ H (Same.refl H) (flat_rep rfl _ _)⟩
  | str i =>
    cases d2 <;> simp only [oadd, Res.ok.injEq, reduceCtorEq] at e
    split at e
    · rename_i j c
      simp only [Res.ok.injEq] at e
      subst e
      refine op_add_str pins s σ H x y v u Q I rx ry ⟨_, _, h1, h2, by rw [str_len, str_len]; exact c, ?_⟩
      rw [str_app]
      exact k _ H (Same.refl H) (flat_rep rfl _ _)
    · cases e
  | tup xs =>
    cases d2 <;> simp only [oadd, Res.ok.injEq, reduceCtorEq] at e
    rename_i ys
    split at e
    · rename_i c
      simp only [Res.ok.injEq] at e
      subst e
      obtain ⟨a, vs, rfl, q1, p1⟩ := (by simpa only [RepW, Rep] using h1 : ∃ a vs, x = .ref a ∧ SqT X.K H a vs ∧ RepL X.K A H xs vs)
      obtain ⟨b, ws, rfl, q2, p2⟩ := (by simpa only [RepW, Rep] using h2 : ∃ a vs, y = .ref a ∧ SqT X.K H a vs ∧ RepL X.K A H ys vs)
      refine op_catA pins s σ H _ _ v u Q I rx ry ⟨a, b, vs, ws, rfl, rfl, q1, q2, by rw [← p1.length, ← p2.length]; exact c, fun z => ?_, fun _ z => ?_, fun _ _ p hp => ?_⟩
      · have z1 := p1.empty.mpr z
        subst z1
        exact k _ H (Same.refl H) h2
      · have z1 := p2.empty.mpr z
        subst z1
        rw [List.append_nil] at k
        exact k _ H (Same.refl H) h1
      · exact k _ _ (new_same hp) (new_tup (p1.append p2) hp)
    · cases e
  | lst xs =>
    cases d2 <;> simp only [oadd, Res.ok.injEq, reduceCtorEq] at e
    rename_i ys
    split at e
    · rename_i c
      simp only [Res.ok.injEq] at e
      subst e
      obtain ⟨a, vs, rfl, q1, p1⟩ := h1
      obtain ⟨b, ws, rfl, q2, p2⟩ := h2
      cases rx
      cases ry
      obtain ⟨z1, its, n, rr1, e1⟩ := lst_at I q1
      obtain ⟨z2, its2, n2, rr2, e2⟩ := lst_at I q2
      have hl1 := rr1.length
      have hl2 := rr2.length
      have hl3 := p1.length
      have hl4 := p2.length
      have hsz : SZ = sizeLine := rfl
      refine PySem.P.add_list e1 e2 ?_ (by rw [List.size_toArray, List.size_toArray]; omega)
      have ea : its.toArray ++ its2.toArray = (its ++ its2).toArray := by simp
      rw [ea]
      exact ⟨.ref _, _, I.lnew (t' := s.toks) (rr1.append rr2) (by rw [List.length_append]; omega), rfl, k _ _ (new_same I.fresh) (new_lst ha (p1.append p2) I.fresh)⟩
    · cases e
  | _ => simp [oadd] at e
end
theorem n_add : NoEx2 oadd := fun x y c fs => by
  cases x <;> cases y <;> simp only [oadd] <;> first | (split <;> exact fun z => nomatch z) | exact fun z => nomatch z
theorem n_sub : NoEx2 osub := fun x y c fs => by cases x <;> cases y <;> exact fun z => nomatch z
theorem n_mul : NoEx2 omul := fun x y c fs => by
  cases x <;> cases y <;> simp only [omul] <;> first | (split <;> exact fun z => nomatch z) | exact fun z => nomatch z
theorem n_fdiv : NoEx2 ofdiv := fun x y c fs => by
  cases x <;> cases y <;> simp only [ofdiv] <;> first | (split <;> exact fun z => nomatch z) | exact fun z => nomatch z
theorem n_mod : NoEx2 omod := fun x y c fs => by
  cases x <;> cases y <;> simp only [omod] <;> first | (split <;> exact fun z => nomatch z) | exact fun z => nomatch z
theorem n_pow : NoEx2 opow := fun x y c fs => by
  cases x <;> cases y <;> simp only [opow] <;> first | (split <;> exact fun z => nomatch z) | exact fun z => nomatch z
theorem n_shl : NoEx2 oshl := fun x y c fs => by
  cases x <;> cases y <;> simp only [oshl] <;> first | (split <;> exact fun z => nomatch z) | exact fun z => nomatch z
theorem n_shr : NoEx2 oshr := fun x y c fs => by
  cases x <;> cases y <;> simp only [oshr] <;> first | (split <;> exact fun z => nomatch z) | exact fun z => nomatch z
theorem n_and : NoEx2 oand := fun x y c fs => by cases x <;> cases y <;> exact fun z => nomatch z
theorem n_lt : NoEx2 olt := fun x y c fs => by cases x <;> cases y <;> exact fun z => nomatch z
theorem n_le : NoEx2 ole := fun x y c fs => by cases x <;> cases y <;> exact fun z => nomatch z
theorem n_gt : NoEx2 ogt := fun x y c fs => by cases x <;> cases y <;> exact fun z => nomatch z
theorem n_ge : NoEx2 oge := fun x y c fs => by cases x <;> cases y <;> exact fun z => nomatch z
theorem n_neg : NoEx1 oneg := fun x c fs => by cases x <;> exact fun z => nomatch z
theorem n_eq : NoEx2 oeq := fun x y c fs => by
  unfold oeq
  split <;> exact fun z => nomatch z
theorem n_ne : NoEx2 one := fun x y c fs => by
  unfold one
  split <;> exact fun z => nomatch z
theorem n_notin : NoEx2 onotin := fun x y c fs => by
  cases y <;> simp only [onotin] <;> first | (split <;> exact fun z => nomatch z) | exact fun z => nomatch z
end Py
/-! Tests, displays, subscripts, attributes, calls of built-ins. -/
namespace Py
open PySem L2
section
variable {X : Cx} {W : WX} {A : AS} {H0 : Base} {ow : Ow} {a b c : Expr} {ma mb mc : EM} {pos : Pos}
/-! ### truths -/
theorem bl_of {K : Frag} {A : AS} {H : Hp} {k : Bool} {v : V} (h : Rep K A H (.bl k) v) : v = .bl k := h
theorem rep_bl {K : Frag} {A : AS} {H : Hp} {k : Bool} : Rep K A H (.bl k) (.bl k) := rfl
theorem x_and {rest : List Expr} (ha : PE X a (tE X.K W ow ma)) (hb : PE X (.BoolOp .And (b :: rest) pos) (tE X.K W ow mb)) : PE X (.BoolOp .And (a :: b :: rest) pos) (tE X.K W ow (andE ma mb)) :=
  PE.of (pe_and ha hb) fun σ H Q ⟨A, H0, O, en, R, q⟩ => ⟨A, H0, O, en, R, (Out.bind q).good fun d q1 v H1 s1 r1 => by
    cases d with
    | bl k =>
      cases k with
      | true =>
        refine ⟨true, bl_of r1, ?_⟩
        rw [if_pos rfl]
        exact ⟨A, H0, O, en, R.to s1, (q1.to s1).good fun d2 q2 v2 H2 s2 r2 => q2 v2 H2 (s1.trans s2) r2⟩
      | false =>
        refine ⟨false, bl_of r1, ?_⟩
        rw [if_neg (by decide)]
        exact q1 _ _ s1 rep_bl
    | _ => exact q1.elim⟩
theorem x_one {op} (h : PE X a (tE X.K W ow ma)) : PE X (.BoolOp op [a] pos) (tE X.K W ow ma) := pe_one h
/-- not x, of a truth -/
theorem x_not (ha : PE X a (tE X.K W ow ma)) : PE X (.UnaryOp .Not a pos) (tE X.K W ow (un onb ma)) :=
  PE.of (pe_not ha) fun σ H Q ⟨A, H0, O, en, R, q⟩ => ⟨A, H0, O, en, R, (Out.bind q).good fun d q1 v H1 s1 r1 => by
    cases d with
    | bl k => exact ⟨k, bl_of r1, q1 _ _ s1 rep_bl⟩
    | _ => exact q1.elim⟩
theorem chain_of {f g : D → D → Res D} (hf : NoEx2 f) (hg : NoEx2 g) {σ : L2.St} {H : Hp} {Q : VK} (h : tE X.K W ow (chain f g ma mb mc) σ H Q) : tChain (r2 X.K f) (r2 X.K g) (tW X.K W ow ma) (tW X.K W ow mb) (tW X.K W ow mc) σ H Q := by
  obtain ⟨A, H0, O, en, R, q⟩ := h
  refine ⟨A, H0, O, en, R, (Out.bind q).good fun d1 q1 v1 H1 s1 r1 => ⟨A, H0, O, en, R.to s1, ((Out.bind q1).to s1).good fun d2 q2 v2 H2 s2 r2 => ?_⟩⟩
  have R2 := (R.to s1).to s2
  have q3 := Out.bind q2
  cases e : f d1 d2 with
  | exc cc fs => exact absurd e (hf _ _ _ _)
  | stuck =>
    rw [e] at q3
    exact q3.elim
  | ok d =>
    rw [e] at q3
    refine ⟨_, d1, d2, d, r1.move s2, r2, R2.there, e, fun v3 H3 s3 r3 => ?_⟩
    have q4 : Out _ _ _ := q3
    cases d with
    | bl k =>
      cases k with
      | false =>
        refine ⟨false, bl_of r3, ?_⟩
        rw [if_neg (by decide)]
        exact q4 _ _ ((s1.trans s2).trans s3) rep_bl
      | true =>
        refine ⟨true, bl_of r3, ?_⟩
        rw [if_pos rfl]
        refine ⟨A, H0, O, en, R2.to s3, ((Out.bind q4).to ((s1.trans s2).trans s3)).good fun d4 q5 v4 H4 s4 r4 => ?_⟩
        exact r2_of (W := W) (O := O) (σ := σ) (H0 := H0) hg (r2.move (s3.trans s4)) r4 ((R2.to s3).to s4).there (q5.good fun d k v H' s' r => k v H' ((((s1.trans s2).trans s3).trans s4).trans s') r)
    | _ => exact q4.elim
theorem x_chain {op op' : CmpOp} {f g : D → D → Res D} (ho : OpR X (compareOp op) (r2 X.K f)) (ho' : OpR X (compareOp op') (r2 X.K g)) (hf : NoEx2 f) (hg : NoEx2 g)
    (ha : PE X a (tW X.K W ow ma)) (hb : PE X b (tW X.K W ow mb)) (hc : PE X c (tW X.K W ow mc))
    (hm : lastMarks [op, op'] [b, c] = false := by with_unfolding_all rfl) : PE X (.Compare a [op, op'] [b, c] pos) (tE X.K W ow (chain f g ma mb mc)) :=
  PE.of (pe_chain ho ho' ha hb hc hm) fun _ _ _ h => chain_of hf hg h
/-! ### tests -/
theorem trim {K : Frag} {A : AS} {H : Hp} {d : D} {v : V} {k : Bool} (h : RepW K A H d v) (e : truthy d = .ok k) : TruV K v H k := by
  cases d with
  | non =>
    simp only [truthy, Res.ok.injEq] at e
    have h' : v = .non := h
    subst h' e
    rfl
  | bl b =>
    simp only [truthy, Res.ok.injEq] at e
    have h' : v = .bl b := h
    subst h' e
    rfl
  | int i =>
    simp only [truthy, Res.ok.injEq] at e
    have h' : v = .int i := h
    subst h' e
    rfl
  | str s =>
    simp only [truthy] at e
    split at e
    · rename_i cc
      simp only [Res.ok.injEq] at e
      have h' : v = .str (Str.ofString s) := h
      subst h' e
      refine ⟨by rw [str_len]; exact cc, ?_⟩
      rw [str_len]
      cases hh : s.length with
      | zero => rfl
      | succ n =>
        have e1 : (((n + 1 : Nat) : Int) == 0) = false := beq_eq_false_iff_ne.mpr (by omega)
        have e2 : ((n + 1 : Nat) == 0) = false := rfl
        unfold bne
        rw [e1, e2]
    · cases e
  | tup xs =>
    simp only [truthy, Res.ok.injEq] at e
    obtain ⟨a, vs, rfl, q, r⟩ := (by simpa only [RepW, Rep] using h : ∃ a vs, v = .ref a ∧ SqT K H a vs ∧ RepL K A H xs vs)
    refine .inr (.inl ⟨vs, q, ?_⟩)
    subst e
    have hl := r.length
    cases xs <;> cases vs <;> first | rfl | simp at hl
  | lst xs =>
    simp only [truthy, Res.ok.injEq] at e
    obtain ⟨a, vs, rfl, q, r⟩ := h
    refine .inl ⟨vs, .inl q, ?_⟩
    subst e
    have hl := r.length
    cases xs <;> cases vs <;> first | rfl | simp at hl
  | dic _ => simp [truthy] at e
  | ins _ _ => simp [truthy] at e
theorem no_truthy : ∀ d c fs, truthy d ≠ .exc c fs := fun d c fs => by
  cases d <;> simp only [truthy] <;> first | (split <;> exact fun z => nomatch z) | exact fun z => nomatch z
/-- any expression as a test -/
theorem t_tst (ha : PE X a (tW X.K W ow ma)) (he : ∀ whole, isTrue a X.env whole = (do let v ← whole; standAt a.pos; holding [v] (PySem.truthy v))) : PT X a (tT X.K W ow (tst ma)) :=
  PT.of (pt_truth ha he) fun σ H Q ⟨A, H0, O, en, R, q⟩ => ⟨A, H0, O, en, R, (Out.bind q).good fun d q1 v H1 s1 r1 => by
    cases e : Py.truthy d with
    | ok k =>
      rw [e] at q1
      exact ⟨k, trim r1 e, q1 H1 s1⟩
    | exc c fs => exact absurd e (no_truthy _ _ _)
    | stuck =>
      rw [e] at q1
      exact q1.elim⟩
/-- what gives a truth, as a test -/
def Bl (m : EM) : Prop := ∀ e d, m e = .ok d → ∃ k, d = .bl k
theorem Bl.bin {f : D → D → Res D} (h : ∀ x y d, f x y = .ok d → ∃ k, d = .bl k) {ma mb : EM} : Bl (bin f ma mb) := fun e d q => by
  unfold Py.bin at q
  cases e1 : ma e with
  | ok d1 =>
    rw [e1, bind_ok] at q
    cases e2 : mb e with
    | ok d2 =>
      rw [e2, bind_ok] at q
      exact h _ _ _ q
    | exc _ _ => rw [e2] at q; cases q
    | stuck => rw [e2] at q; cases q
  | exc _ _ => rw [e1] at q; cases q
  | stuck => rw [e1] at q; cases q
theorem tst_of {m : EM} (hm : Bl m) {σ : L2.St} {H : Hp} {Q : Bool → Hp → Prop} (h : tT X.K W ow (tst m) σ H Q) : tE X.K W ow m σ H fun x H' => ∃ k, x = .bl k ∧ Q k H' := by
  obtain ⟨A, H0, O, en, R, q⟩ := h
  refine ⟨A, H0, O, en, R, (Out.bind q).imp (fun d e q1 v H1 s1 r1 => ?_) fun _ _ x => x⟩
  obtain ⟨k, rfl⟩ := hm _ _ e
  exact ⟨k, bl_of r1, q1 H1 s1⟩
/-- a comparison as a test -/
theorem t_cmp {op : CmpOp} {f : D → D → Res D} (ho : OpR X (compareOp op) (r2 X.K f)) (hf : NoEx2 f) (hb2 : ∀ x y d, f x y = .ok d → ∃ k, d = .bl k) (ha : PE X a (tW X.K W ow ma)) (hb : PE X b (tW X.K W ow mb)) (hm : behindInMarks op b = false) :
    PT X (.Compare a [op] [b] pos) (tT X.K W ow (tst (bin f ma mb))) :=
  PT.of (pt_cmpR ho ha hb hm) fun _ _ _ h => two_of hf (tst_of (Bl.bin hb2) h)
theorem t_chain {op op' : CmpOp} {f g : D → D → Res D} (ho : OpR X (compareOp op) (r2 X.K f)) (ho' : OpR X (compareOp op') (r2 X.K g)) (hf : NoEx2 f) (hg : NoEx2 g) (hm2 : Bl (chain f g ma mb mc))
    (ha : PE X a (tW X.K W ow ma)) (hb : PE X b (tW X.K W ow mb)) (hc : PE X c (tW X.K W ow mc))
    (hm : lastMarks [op, op'] [b, c] = false := by with_unfolding_all rfl) : PT X (.Compare a [op, op'] [b, c] pos) (tT X.K W ow (tst (chain f g ma mb mc))) :=
  PT.of (pt_chain ho ho' ha hb hc hm) fun _ _ _ h => chain_of hf hg (tst_of hm2 h)
theorem Bl.chain {f g : D → D → Res D} (h : ∀ x y d, g x y = .ok d → ∃ k, d = .bl k) {ma mb mc : EM} : Bl (chain f g ma mb mc) := fun e d q => by
  unfold Py.chain at q
  cases e1 : ma e with
  | ok d1 =>
    rw [e1, bind_ok] at q
    cases e2 : mb e with
    | ok d2 =>
      rw [e2, bind_ok] at q
      cases e3 : f d1 d2 with
      | ok z =>
        rw [e3, bind_ok] at q
        cases z with
        | bl k =>
          cases k with
          | false =>
            simp only [Res.ok.injEq] at q
            exact ⟨false, q.symm⟩
          | true =>
            simp only at q
            cases e4 : mc e with
            | ok d4 =>
              rw [e4, bind_ok] at q
              exact h _ _ _ q
            | exc _ _ => rw [e4] at q; cases q
            | stuck => rw [e4] at q; cases q
        | _ => cases q
      | exc _ _ => rw [e3] at q; cases q
      | stuck => rw [e3] at q; cases q
    | exc _ _ => rw [e2] at q; cases q
    | stuck => rw [e2] at q; cases q
  | exc _ _ => rw [e1] at q; cases q
  | stuck => rw [e1] at q; cases q
theorem b_lt : ∀ x y d, olt x y = .ok d → ∃ k, d = .bl k := fun x y d h => by
  cases x <;> cases y <;> simp only [olt, Res.ok.injEq, reduceCtorEq] at h
  exact ⟨_, h.symm⟩
theorem b_le : ∀ x y d, ole x y = .ok d → ∃ k, d = .bl k := fun x y d h => by
  cases x <;> cases y <;> simp only [ole, Res.ok.injEq, reduceCtorEq] at h
  exact ⟨_, h.symm⟩
theorem b_gt : ∀ x y d, ogt x y = .ok d → ∃ k, d = .bl k := fun x y d h => by
  cases x <;> cases y <;> simp only [ogt, Res.ok.injEq, reduceCtorEq] at h
  exact ⟨_, h.symm⟩
theorem b_ge : ∀ x y d, oge x y = .ok d → ∃ k, d = .bl k := fun x y d h => by
  cases x <;> cases y <;> simp only [oge, Res.ok.injEq, reduceCtorEq] at h
  exact ⟨_, h.symm⟩
theorem b_eq : ∀ x y d, oeq x y = .ok d → ∃ k, d = .bl k := fun x y d h => by
  unfold oeq at h
  split at h <;> simp only [Res.ok.injEq, reduceCtorEq] at h
  exact ⟨_, h.symm⟩
theorem b_ne : ∀ x y d, Py.one x y = .ok d → ∃ k, d = .bl k := fun x y d h => by
  unfold Py.one at h
  split at h <;> simp only [Res.ok.injEq, reduceCtorEq] at h
  exact ⟨_, h.symm⟩
theorem b_notin : ∀ x y d, onotin x y = .ok d → ∃ k, d = .bl k := fun x y d h => by
  cases y <;> simp only [onotin, reduceCtorEq] at h <;> split at h <;> simp only [Res.ok.injEq, reduceCtorEq] at h <;> exact ⟨_, h.symm⟩
theorem t_and1 {t : TM} (ha : PT X a (tT X.K W ow t)) : PW X (.BoolOp .And [a] pos) (tT X.K W ow t) := pw_and1 ha
theorem t_or1 {t : TM} (ha : PT X a (tT X.K W ow t)) : PW X (.BoolOp .Or [a] pos) (tT X.K W ow t) := pw_or1 ha
theorem t_and {t u : TM} {rest : List Expr} (ha : PT X a (tT X.K W ow t)) (hb : PW X (.BoolOp .And (b :: rest) pos) (tT X.K W ow u)) : PW X (.BoolOp .And (a :: b :: rest) pos) (tT X.K W ow (andT t u)) :=
  PW.of (pw_and ha hb) fun σ H Q ⟨A, H0, O, en, R, q⟩ => ⟨A, H0, O, en, R, (Out.bind q).good fun k q1 H1 s1 => by
    cases k with
    | true =>
      rw [if_pos rfl] at q1 ⊢
      exact ⟨A, H0, O, en, R.to s1, (q1.to s1).good fun d2 q2 H2 s2 => q2 H2 (s1.trans s2)⟩
    | false =>
      rw [if_neg (by decide)] at q1 ⊢
      exact q1 H1 s1⟩
theorem t_or {t u : TM} {rest : List Expr} (ha : PT X a (tT X.K W ow t)) (hb : PW X (.BoolOp .Or (b :: rest) pos) (tT X.K W ow u)) : PW X (.BoolOp .Or (a :: b :: rest) pos) (tT X.K W ow (orT t u)) :=
  PW.of (pw_or ha hb) fun σ H Q ⟨A, H0, O, en, R, q⟩ => ⟨A, H0, O, en, R, (Out.bind q).good fun k q1 H1 s1 => by
    cases k with
    | false =>
      rw [if_neg (by decide)] at q1 ⊢
      exact ⟨A, H0, O, en, R.to s1, (q1.to s1).good fun d2 q2 H2 s2 => q2 H2 (s1.trans s2)⟩
    | true =>
      rw [if_pos rfl] at q1 ⊢
      exact q1 H1 s1⟩
theorem t_not {t : TM} (ha : PT X a (tT X.K W ow t)) : PT X (.UnaryOp .Not a pos) (tT X.K W ow (notT t)) :=
  PT.of (pt_not ha) fun σ H Q ⟨A, H0, O, en, R, q⟩ => ⟨A, H0, O, en, R, (Out.bind q).good fun k q1 H1 s1 => q1 H1 s1⟩
/-! ### is None, is True -/
theorem isN_v {K : Frag} {A : AS} {H : Hp} {d : D} {v : V} (h : RepW K A H d v) : decide (v = .non) = isNon d := by
  cases d with
  | non =>
    have h' : v = .non := h
    subst h'
    rfl
  | bl b =>
    have h' : v = .bl b := h
    subst h'
    rfl
  | int b =>
    have h' : v = .int b := h
    subst h'
    rfl
  | str b =>
    have h' : v = .str (Str.ofString b) := h
    subst h'
    rfl
  | tup xs =>
    obtain ⟨a, vs, rfl, q, r⟩ := (by simpa only [RepW, Rep] using h : ∃ a vs, v = .ref a ∧ SqT K H a vs ∧ RepL K A H xs vs)
    rfl
  | lst xs =>
    obtain ⟨a, vs, rfl, q, r⟩ := h
    rfl
  | dic _ _ =>
    obtain ⟨a, rfl, _⟩ := h
    rfl
  | ins _ _ =>
    obtain ⟨a, dx, fvs, rfl, _⟩ := h
    rfl
theorem x_isN {j pos'} (ha : PE X a (tW X.K W ow ma)) : PE X (.Compare a [.Is] [.Constant .none j pos'] pos) (tE X.K W ow (un oisN ma)) :=
  PE.of (pe_cmp (pc_isN ha)) fun σ H Q ⟨A, H0, O, en, R, q⟩ => ⟨A, H0, O, en, R, (Out.bind q).good fun d q1 v H1 s1 r1 => by
    dsimp only
    rw [isN_v r1]
    exact q1 _ _ s1 rep_bl⟩
theorem Bl.un {f : D → Res D} (h : ∀ x d, f x = .ok d → ∃ k, d = .bl k) {ma : EM} : Bl (un f ma) := fun e d q => by
  unfold Py.un at q
  cases e1 : ma e with
  | ok d1 =>
    rw [e1, bind_ok] at q
    exact h _ _ q
  | exc _ _ => rw [e1] at q; cases q
  | stuck => rw [e1] at q; cases q
theorem b_isN : ∀ x d, oisN x = .ok d → ∃ k, d = .bl k := fun x d h => ⟨_, (Res.ok.inj h).symm⟩
theorem b_notN : ∀ x d, onotN x = .ok d → ∃ k, d = .bl k := fun x d h => ⟨_, (Res.ok.inj h).symm⟩
theorem t_isN {j pos'} (ha : PE X a (tW X.K W ow ma)) : PT X (.Compare a [.Is] [.Constant .none j pos'] pos) (tT X.K W ow (tst (un oisN ma))) :=
  PT.of (pt_cmp (pc_isN ha)) fun σ H Q h => by
    obtain ⟨A, H0, O, en, R, q⟩ := tst_of (Bl.un b_isN) h
    refine ⟨A, H0, O, en, R, (Out.bind q).good fun d q1 v H1 s1 r1 => ?_⟩
    dsimp only
    rw [isN_v r1]
    exact q1 _ _ s1 rep_bl
theorem t_notN {j pos'} (ha : PE X a (tW X.K W ow ma)) : PT X (.Compare a [.IsNot] [.Constant .none j pos'] pos) (tT X.K W ow (tst (un onotN ma))) :=
  PT.of (pt_cmp (pc_notN ha)) fun σ H Q h => by
    obtain ⟨A, H0, O, en, R, q⟩ := tst_of (Bl.un b_notN) h
    refine ⟨A, H0, O, en, R, (Out.bind q).good fun d q1 v H1 s1 r1 => ?_⟩
    dsimp only
    rw [isN_v r1]
    exact q1 _ _ s1 rep_bl
end
end Py
/-! Displays, subscripts, attributes, calls of built-ins. -/
namespace Py
open PySem L2 PySem.Spec PyProof.Rows
/-- values and data, one by one -/
theorem paired_rep {K : Frag} {A : AS} {H : Hp} : ∀ {vs : List V} {ds : List D}, Paired (fun v d => Rep K A H d v) vs ds → RepL K A H ds vs
  | _, _, .nil => by simp [RepL]
  | _, _, .cons r t => by
    simp only [RepL]
    exact ⟨_, _, rfl, r, paired_rep t⟩
section
variable {X : Cx} {W : WX} {A : AS} {H0 : Base} {ow : Ow} {a b c e : Expr} {es : List Expr} {m ma mb mc : EM} {am : AM} {pos : Pos}
/-! ### argument lists -/
abbrev aE (K : Frag) := tA (Rep K) K
theorem xa_nil {R : RR} : PA X [] (tA R X.K W ow argN) := PA.of pa_nil fun σ H Q ⟨A, H0, O, en, R', q⟩ => q [] H (Same.refl H) .nil
theorem xa_cons (ha : PE X e (tE X.K W ow m)) (hr : PA X es (aE X.K W ow am)) (hs : starEach (e :: es) X.env = (false, eval e X.env) :: starEach es X.env := by rfl) : PA X (e :: es) (aE X.K W ow (argC m am)) :=
  PA.of (pa_cons ha hr hs) fun σ H Q ⟨A, H0, O, en, R, q⟩ => ⟨A, H0, O, en, R, (Out.bind q).good fun d q1 v H1 s1 r1 => ⟨A, H0, O, en, R.to s1, ((Out.bind q1).to s1).good fun ds q2 vs H2 s2 r2 =>
    q2 (v :: vs) H2 (s1.trans s2) (.cons (Rep.move (Mv.same s2) _ _ r1) r2)⟩⟩
/-! ### displays -/
theorem x_tup {x1} (h : PA X es (aE X.K W ow am)) : PE X (.Tuple es x1 pos) (tE X.K W ow (tupE am)) :=
  PE.of (pe_tup h) fun σ H Q ⟨A, H0, O, en, R, q⟩ => ⟨A, H0, O, en, R, (Out.bind q).good fun ds q1 vs H1 s1 r1 => by
    have rl := paired_rep r1
    unfold chk at q1
    split at q1
    · rename_i z
      exact ⟨by rw [← rl.length]; exact z, fun p hp => q1 _ _ (s1.trans (new_same hp)) (new_tup rl hp)⟩
    · exact q1.elim⟩
theorem f_lst (h : PA X es (aE X.K W ow am)) : PE X (.List es pos) (tF X.K W ow (lstE am)) :=
  PE.of (pe_lst h) fun σ H Q ⟨A, H0, O, en, R, q⟩ => ⟨A, H0, O, en, R, (Out.bind q).good fun ds q1 vs H1 s1 r1 => by
    have rl := paired_rep r1
    unfold chk at q1
    split at q1
    · rename_i z
      refine ⟨by rw [← rl.length]; exact z, fun p hp => q1 p _ (s1.free hp) (s1.trans (new_same hp)) ⟨vs, upd_same, ?_⟩⟩
      refine RepL.move ⟨fun b hb => ?_, fun b o e _ => new_same hp b o e⟩ _ _ rl
      rcases hb with hb | rfl
      · exact .inl hb
      · exact .inr hp
    · exact q1.elim⟩
/-! ### subscripts -/
def r2n (K : Frag) (f : D → D → Res D) : R2 := fun x y H Q => ∃ A d1 d2 d, isDic d1 = false ∧ RepW K A H d1 x ∧ RepW K A H d2 y ∧ (∀ a, A a → H a ≠ none) ∧ f d1 d2 = .ok d ∧ ∀ v H', Same H H' → Rep K A H' d v → Q v H'
theorem y_idx0 : IxR X (r2n X.K oidx) := by
  intro value slice pins s σ H x y v u Q I rx ry ⟨A, d1, d2, d, hnd, h1, h2, ha, e, k⟩ hs
  cases d1 with
  | lst xs =>
    cases d2 <;> simp only [oidx, reduceCtorEq] at e
    rename_i i
    obtain ⟨a, vs, rfl, q, r⟩ := h1
    unfold opt at e
    split at e
    · rename_i d' he
      simp only [Res.ok.injEq] at e
      subst e
      unfold atI at he
      cases hj : ixN xs.length i with
      | none => rw [hj] at he; cases he
      | some j =>
        rw [hj] at he
        obtain ⟨w, hw, rw'⟩ := r.get (show xs[j]? = some d' from he)
        refine ix_list value slice pins s σ H _ _ v u Q I rx ry ⟨a, vs, i, w, rfl, h2, .inl q, ?_, k w H (Same.refl H) rw'⟩ hs
        unfold atI
        rw [← r.length, hj]
        exact hw
    · cases e
  | tup xs =>
    cases d2 <;> simp only [oidx, reduceCtorEq] at e
    rename_i i
    obtain ⟨a, vs, rfl, q, r⟩ := (by simpa only [RepW, Rep] using h1 : ∃ a vs, x = .ref a ∧ SqT X.K H a vs ∧ RepL X.K A H xs vs)
    unfold opt at e
    split at e
    · rename_i d' he
      simp only [Res.ok.injEq] at e
      subst e
      unfold atI at he
      cases hj : ixN xs.length i with
      | none => rw [hj] at he; cases he
      | some j =>
        rw [hj] at he
        obtain ⟨w, hw, rw'⟩ := r.get (show xs[j]? = some d' from he)
        refine ix_tup value slice pins s σ H _ _ v u Q I rx ry ⟨a, vs, i, w, rfl, h2, q, ?_, k w H (Same.refl H) rw'⟩ hs
        unfold atI
        rw [← r.length, hj]
        exact hw
    · cases e
  | str z =>
    cases d2 <;> simp only [oidx, reduceCtorEq] at e
    rename_i i
    split at e
    · rename_i hz
      have h1' : x = .str (Str.ofString z) := h1
      have h2' : y = .int i := h2
      subst h1' h2'
      unfold opt at e
      split at e
      · rename_i d' he
        simp only [Res.ok.injEq] at e
        subst e
        unfold atI at he
        cases hj : ixN z.toList.length i with
        | none => rw [hj] at he; cases he
        | some j =>
          rw [hj] at he
          have he1 : Option.map (fun c => D.str (String.ofList [c])) (z.toList[j]?) = some d' := he
          cases hc : z.toList[j]? with
          | none => rw [hc] at he1; cases he1
          | some ch =>
            rw [hc] at he1
            have he2 : D.str (String.ofList [ch]) = d' := Option.some.inj he1
            subst he2
            have e1 : (Str.ofString z).cps.toList = z.toList.map Char.toNat := by rw [Str.ofString_eq_toList]
            refine ix_str value slice pins s σ H _ _ v u Q I rx ry ⟨_, i, ch.toNat, rfl, rfl, by rw [str_len]; exact hz, ?_, ?_⟩ hs
            · unfold atI
              rw [e1, List.length_map, hj]
              show (List.map Char.toNat z.toList)[j]? = _
              rw [List.getElem?_map, hc]
              rfl
            · have e2 : Str.ofString (String.ofList [ch]) = ⟨#[ch.toNat]⟩ := by
                rw [Str.ofString_eq_toList, String.toList_ofList]
                rfl
              rw [← e2]
              exact k _ H (Same.refl H) rfl
      · cases e
    · cases e
  | dic t kvs => simp [isDic] at hnd
  | _ => simp [oidx] at e
theorem y_idx (hu : X.A.units + 16 < cLine) : IxR X (r2 X.K oidx) := by
  intro value slice pins s σ H x y v u Q I rx ry ⟨A, d1, d2, d, h1, h2, ha, e, k⟩ hs
  cases hnd : isDic d1 with
  | false => exact y_idx0 value slice pins s σ H x y v u Q I rx ry ⟨A, d1, d2, d, hnd, h1, h2, ha, e, k⟩ hs
  | true =>
    cases d1 <;> simp only [isDic, reduceCtorEq] at hnd
    rename_i t kvs
    simp only [oidx] at e
    split at e
    · rename_i hk
      obtain ⟨a, rfl, g⟩ := h1
      cases (show v = Value.ref a from rx)
      have h2' : Rep X.K A H d2 y := by
        cases d2 <;> first | exact h2 | (cases t <;> simp [keyOk] at hk)
      unfold opt at e
      split at e
      · rename_i d' hf
        simp only [Res.ok.injEq] at e
        subst e
        exact tail_any (dic_type I g) slot_dict_getitem.lookup (dic_get hu I g hk h2' ry hf fun v w' s' I' r' rv => ⟨v, H, I', r', k v H (Same.refl H) rv⟩) hs
      · cases e
    · cases e
theorem n_idx : NoEx2 oidx := fun x y c fs => by
  have ho : ∀ o, opt o ≠ .exc c fs := fun o => by cases o <;> exact fun z => nomatch z
  cases x <;> cases y <;> simp only [oidx] <;> first | exact ho _ | (split <;> first | exact ho _ | exact fun z => nomatch z) | exact fun z => nomatch z
theorem x_idx (hi : IxR X (r2 X.K oidx)) (ha : PE X a (tW X.K W ow ma)) (hb : PE X b (tW X.K W ow mb)) (hs : PlainIx b := by exact fun _ _ => rfl) : PE X (.Subscript a b pos) (tE X.K W ow (bin oidx ma mb)) :=
  PE.of (pe_ix hi ha hb hs) fun _ _ _ h => two_of n_idx h
/-! ### slices -/
theorem RepL.cut {K : Frag} {A : AS} {H : Hp} {ds : List D} {vs : List V} (h : RepL K A H ds vs) (lo hi : Option Int) : RepL K A H (Py.cut ds lo hi) (cutV vs lo hi) := by
  unfold Py.cut cutV
  rw [h.length]
  exact (h.drop _).take _
def rS (K : Frag) : V → Option Int → Option Int → Hp → VK → Prop := fun x lo hi H Q => ∃ A d1 d, RepW K A H d1 x ∧ (∀ a, A a → H a ≠ none) ∧ oslc d1 lo hi = .ok d ∧ ∀ v H', Same H H' → Rep K A H' d v → Q v H'
theorem cut_all {α : Type} {xs : List α} {lo hi : Option Int} (h : HT.sIx xs.length 0 lo = 0 ∧ HT.sIx xs.length xs.length hi = xs.length) : Py.cut xs lo hi = xs := by
  unfold Py.cut
  rw [h.1, h.2]
  simp
theorem y_slc : SlR X (rS X.K) := by
  intro pins s σ H x v vl vu lo hi sl Q I rx hs pl' pu h
  obtain ⟨A, d1, d, h1, ha, e, k⟩ := h
  cases d1 with
  | lst xs =>
    simp only [oslc, Res.ok.injEq] at e
    subst e
    obtain ⟨a, vs, rfl, q, r⟩ := h1
    exact sl_list pins s σ H _ v vl vu lo hi sl Q I rx hs pl' pu ⟨a, vs, rfl, .inl q, fun p hp => k _ _ (new_same hp) (new_lst ha (r.cut lo hi) hp)⟩
  | tup xs =>
    simp only [oslc, Res.ok.injEq] at e
    subst e
    obtain ⟨a, vs, rfl, q, r⟩ := (by simpa only [RepW, Rep] using h1 : ∃ a vs, x = .ref a ∧ SqT X.K H a vs ∧ RepL X.K A H xs vs)
    refine sl_tupA pins s σ H _ v vl vu lo hi sl Q I rx hs pl' pu ⟨a, vs, rfl, q, fun z => ?_, fun _ p hp => k _ _ (new_same hp) (new_tup (r.cut lo hi) hp)⟩
    rw [← r.length] at z
    rw [cut_all z] at k
    exact k _ H (Same.refl H) h1
  | str z =>
    simp only [oslc] at e
    split at e
    · rename_i hz
      simp only [Res.ok.injEq] at e
      subst e
      have h1' : x = .str (Str.ofString z) := h1
      subst h1'
      refine sl_str pins s σ H _ v vl vu lo hi sl Q I rx hs pl' pu ⟨_, rfl, by rw [str_len]; exact hz, ?_⟩
      have e1 : cutS (Str.ofString z) lo hi = Str.ofString (String.ofList (Py.cut z.toList lo hi)) := by
        rw [Str.ofString_eq_toList (String.ofList _), String.toList_ofList]
        unfold cutS Py.cut
        rw [str_len]
        rw [Str.ofString_eq_toList]
        simp [List.map_take, List.map_drop, String.length_toList]
      rw [e1]
      exact k _ H (Same.refl H) rfl
    · cases e
  | _ => simp [oslc] at e
end
end Py
/-! Slices as expressions, attributes, calls of built-ins, isinstance. -/
namespace Py
open PySem L2
/-! ### own classes: what isinstance and attributes ask -/
structure KitC (K : Frag) (cs : List String) (c : String) : Prop where
  cl : Cls K (ca K c)
  ha : PySem.W.findIn K (.ref (ca K c)) "__class__" = some (some (.builtin "object.__class__"))
  hn : PySem.W.specialIn K (.builtin "object.__class__") "__get__" = some (some (.builtin "getset_descriptor.__get__"))
  ht : PySem.W.takesIn K (.builtin "object.__class__") = some true
  hm : PySem.W.mroIn K (ca K c) (.type "object") = some true
  oo : ∀ d ∈ cs, PySem.W.kitOne K (.ref (ca K c)) (.ref (ca K d)) = some (decide (c = d))
  ob : ∀ T ∈ tyNames, PySem.W.kitOne K (.ref (ca K c)) (.type T) = some false
  bo : ∀ T ∈ tyNames, PySem.W.kitOne K (.type T) (.ref (ca K c)) = some false
def KitF (K : Frag) (cs : List String) : Prop := ∀ c ∈ cs, KitC K cs c
theorem kit_of_b {K : Frag} {cs : List String} (h : kitB K cs = true) : KitF K cs := fun c hc => by
  have h1 := List.all_eq_true.mp h c hc
  simp only [Bool.and_eq_true, decide_eq_true_eq, List.all_eq_true] at h1
  obtain ⟨a1, a2, a3, a4, a5, a6, a7⟩ := h1
  exact ⟨He.cls_ok a1, a2, a3, a4, a5, a6, fun T hT => (a7 T hT).1, fun T hT => (a7 T hT).2⟩
def tyN : Ty → String
  | .non => "NoneType" | .bl => "bool" | .int => "int" | .str => "str" | .tup => "tuple" | .lst => "list" | .dic => "dict" | .cls c => c
def tyV (K : Frag) : Ty → V
  | .cls c => .ref (ca K c)
  | t => .ty (tyN t)
def tyU (K : Frag) : Ty → Value
  | .cls c => .ref (ca K c)
  | t => .type (tyN t)
theorem ty_cls (K : Frag) (t : Ty) : ClsV (tyV K t) (tyU K t) := by
  cases t <;> first | exact .ty _ | exact .own _
theorem isI_ty (t : Ty) (d : D) (h : t ≠ .non) : isI t d = (decide (t = tyOf d) || (decide (tyOf d = .bl) && decide (t = .int))) := by
  cases d <;> cases t <;> simp [isI, tyOf] at h ⊢
theorem kit_one {K : Frag} {cs : List String} (F : KitF K cs) {t : Ty} {d : D} (h1 : inCs cs t = true) (h2 : inCs cs (tyOf d) = true) (hn : t ≠ .non) : PySem.W.kitOne K (tyU K (tyOf d)) (tyU K t) = some (isI t d) := by
  rw [isI_ty t d hn]
  cases ht : t with
  | cls c =>
    subst ht
    have hc : c ∈ cs := by simpa [inCs] using h1
    cases hd : tyOf d with
    | cls c' =>
      rw [hd] at h2
      have hc' : c' ∈ cs := by simpa [inCs] using h2
      have := (F c' hc').oo c hc
      show PySem.W.kitOne K (.ref (ca K c')) (.ref (ca K c)) = _
      rw [this]
      by_cases q : c = c'
      · subst q
        simp
      · have q2 : ¬ c' = c := fun z => q z.symm
        simp [q, q2]
    | _ =>
      show PySem.W.kitOne K (.type _) (.ref (ca K c)) = _
      rw [(F c hc).bo _ (by decide)]
      simp
  | non => exact absurd ht hn
  | _ =>
    cases hd : tyOf d with
    | cls c' =>
      rw [hd] at h2
      have hc' : c' ∈ cs := by simpa [inCs] using h2
      show PySem.W.kitOne K (.ref (ca K c')) (.type _) = _
      rw [(F c' hc').ob _ (by decide)]
      simp
    | _ => exact L2.kit_ty (by rw [← show tyN _ = _ from rfl]; decide +kernel)
theorem tyx_of {K : Frag} {cs : List String} (F : KitF K cs) {A : AS} {H : Hp} {d : D} {v : V} (h : RepW K A H d v) (h2 : inCs cs (tyOf d) = true) : TyX K H v (tyU K (tyOf d)) := by
  cases d with
  | non =>
    have h' : v = .non := h
    subst h'
    exact .base .non
  | bl b =>
    have h' : v = .bl b := h
    subst h'
    exact .base (.bl _)
  | int b =>
    have h' : v = .int b := h
    subst h'
    exact .base (.int _)
  | str b =>
    have h' : v = .str (Str.ofString b) := h
    subst h'
    exact .base (.str _)
  | tup xs =>
    obtain ⟨a, vs, rfl, q, r⟩ := (by simpa only [RepW, Rep] using h : ∃ a vs, v = .ref a ∧ SqT K H a vs ∧ RepL K A H xs vs)
    rcases q with (q | ⟨o, q⟩) | ⟨o, its, n, q1, q2, _⟩
    · exact .base (.tup q)
    · exact .fTuple q
    · exact .kTuple q1 q2
  | lst xs =>
    obtain ⟨a, vs, rfl, q, r⟩ := h
    rcases q with q | ⟨o, q⟩
    · exact .base (.lst q)
    · exact .base (.frz q)
  | dic _ _ => simp [inCs, tyOf] at h2
  | ins c fs =>
    obtain ⟨a, dx, fvs, rfl, q, _⟩ := h
    have hc : c ∈ cs := by simpa [inCs, tyOf] using h2
    have k := F c hc
    exact .base (.ins q k.cl k.ha k.hn k.ht k.hm)
/-- isinstance(x, (t1, t2, ..)) -/
theorem n_isi {cs : List String} {ts : List Ty} : NoEx1 (oisi cs ts) := fun x c fs => by
  unfold oisi
  split <;> exact fun z => nomatch z
theorem isi_ok {cs : List String} {ts : List Ty} {d r : D} (h : oisi cs ts d = .ok r) : inCs cs (tyOf d) = true ∧ (∀ t ∈ ts, inCs cs t = true ∧ t ≠ .non) ∧ r = .bl (ts.any fun t => isI t d) := by
  unfold oisi at h
  split at h
  · rename_i c
    simp only [Bool.and_eq_true, List.all_eq_true, decide_eq_true_eq] at c
    simp only [Res.ok.injEq] at h
    exact ⟨c.1, c.2, h.symm⟩
  · cases h
theorem kit_any {K : Frag} {cs : List String} (F : KitF K cs) {d : D} (h2 : inCs cs (tyOf d) = true) : ∀ {ts : List Ty}, (∀ t ∈ ts, inCs cs t = true ∧ t ≠ .non) → PySem.W.kitAny K (tyU K (tyOf d)) (ts.map (tyU K)) = some (ts.any fun t => isI t d)
  | [], _ => rfl
  | t :: ts, h => by
    obtain ⟨a1, a2⟩ := h t (by simp)
    simp only [List.map_cons, List.any_cons]
    refine L2.kitAny_cons (kit_one F a1 h2 a2) (fun e => ?_) fun e => by rw [e]; rfl
    rw [e, Bool.false_or]
    exact kit_any F h2 fun t' h' => h t' (by simp [h'])
theorem RepL.reverse {K : Frag} {A : AS} {H : Hp} : ∀ {ds : List D} {vs : List V}, RepL K A H ds vs → RepL K A H ds.reverse vs.reverse
  | [], vs, h => by
    simp only [RepL] at h
    subst h
    simp [RepL]
  | d :: ds, vs, h => by
    simp only [RepL] at h
    obtain ⟨v, r, rfl, h1, h2⟩ := h
    simp only [List.reverse_cons]
    exact (RepL.reverse h2).append (RepL.one h1)
section
variable {X : Cx} {W : WX} {A : AS} {H0 : Base} {ow : Ow} {a b c e : Expr} {es : List Expr} {m ma mb mc : EM} {am : AM} {pos : Pos}
theorem x_isi1 {cs : List String} {t : Ty} {x : Str} {p : Pos} (hx : x = "isinstance") (F : KitF X.K cs) (hg : Gl X x) (hm : X.mg x = none) (ha : PE X a (tW X.K W ow ma)) (hb : PE X b (tC (tyV X.K t)))
    (hs : starEach [a, b] X.env = (false, eval a X.env) :: starEach [b] X.env := by rfl) (hs2 : starEach [b] X.env = [(false, eval b X.env)] := by rfl) (hpl : (backTo pos (starEach [b] X.env)).any (·.1) = false := by rfl) :
    PE X (.Call (.Name x p) [a, b] [] pos) (tE X.K W ow (un (oisi cs [t]) ma)) := by
  subst hx
  refine PE.of (pe_callB call_isi hg hm (by decide +kernel) (pa_cons ha (pa_cons hb pa_nil hs2) hs) (by decide) (by decide) hs hpl) fun σ H Q ⟨A, H0, O, en, R, q⟩ => ⟨A, H0, O, en, R, (Out.bind q).good fun d q1 v H1 s1 r1 => ?_⟩
  cases e : oisi cs [t] d with
  | exc _ _ => exact absurd e (n_isi _ _ _)
  | stuck =>
    rw [e] at q1
    exact q1.elim
  | ok r =>
    rw [e] at q1
    obtain ⟨h1, h2, rfl⟩ := isi_ok e
    obtain ⟨h3, h4⟩ := h2 t (by simp)
    refine ⟨v, tyV X.K t, tyU X.K (tyOf d), tyU X.K t, isI t d, rfl, ty_cls _ _, tyx_of F r1 h1, kit_one F h3 h1 h4, ?_⟩
    have q2 := q1 (.bl ([t].any fun t => isI t d)) H1 s1 rep_bl
    simpa using q2
/-- a tuple of classes as written -/
inductive TyL (X : Cx) : List Expr → List Ty → TA → Prop
  | nil : TyL X [] [] tNil
  | cons {e : Expr} {es : List Expr} {t : Ty} {ts : List Ty} {r : TA} (h : PE X e (tC (tyV X.K t))) (k : TyL X es ts r) (hs : starEach (e :: es) X.env = (false, eval e X.env) :: starEach es X.env) : TyL X (e :: es) (t :: ts) (tCons (tC (tyV X.K t)) r)
theorem TyL.pa {es : List Expr} {ts : List Ty} {r : TA} (h : TyL X es ts r) : PA X es r := by
  induction h with
  | nil => exact pa_nil
  | cons h _ hs ih => exact pa_cons h ih hs
theorem TyL.run {es : List Expr} {ts : List Ty} {r : TA} (h : TyL X es ts r) : ∀ {σ : L2.St} {H : Hp} {Q : List V → Hp → Prop}, Q (ts.map (tyV X.K)) H → r σ H Q := by
  induction h with
  | nil => exact fun q => q
  | cons h _ hs ih => exact fun q => ih (Q := fun xs H2 => _) q
theorem ty_all (K : Frag) : ∀ ts : List Ty, Paired ClsV (ts.map (tyV K)) (ts.map (tyU K))
  | [] => .nil
  | t :: ts => .cons (ty_cls K t) (ty_all K ts)
theorem x_isiT {cs : List String} {ts : List Ty} {r : TA} {x : Str} {p tp : Pos} {tk} (hx : x = "isinstance") (F : KitF X.K cs) (hg : Gl X x) (hm : X.mg x = none) (ha : PE X a (tW X.K W ow ma)) (hb : TyL X es ts r) (hz : ts.length ≤ 20)
    (hs : starEach [a, .Tuple es tk tp] X.env = (false, eval a X.env) :: starEach [.Tuple es tk tp] X.env := by rfl) (hs2 : starEach [.Tuple es tk tp] X.env = [(false, eval (.Tuple es tk tp) X.env)] := by rfl) (hpl : (backTo pos (starEach [.Tuple es tk tp] X.env)).any (·.1) = false := by rfl) :
    PE X (.Call (.Name x p) [a, .Tuple es tk tp] [] pos) (tE X.K W ow (un (oisi cs ts) ma)) := by
  subst hx
  refine PE.of (pe_callB call_isiT hg hm (by decide +kernel) (pa_cons ha (pa_cons (pe_tup hb.pa) pa_nil hs2) hs) (by decide) (by decide) hs hpl) fun σ H Q ⟨A, H0, O, en, R, q⟩ => ⟨A, H0, O, en, R, (Out.bind q).good fun d q1 v H1 s1 r1 => ?_⟩
  cases e : oisi cs ts d with
  | exc _ _ => exact absurd e (n_isi _ _ _)
  | stuck =>
    rw [e] at q1
    exact q1.elim
  | ok r =>
    rw [e] at q1
    obtain ⟨h1, h2, rfl⟩ := isi_ok e
    refine hb.run ⟨by rw [List.length_map]; exact Nat.le_trans hz (by decide), fun p hp => ?_⟩
    exact ⟨v, p, ts.map (tyV X.K), tyU X.K (tyOf d), ts.map (tyU X.K), _, rfl, upd_same, ty_all _ _, tyx_of F (r1.move (new_same hp)) h1, kit_any F h1 h2, q1 _ _ (s1.trans (new_same hp)) rep_bl⟩
/-! ### attributes -/
theorem x_attr {cs : List String} {f : String} (F : ∀ c ∈ cs, Cls X.K (ca X.K c) ∧ NoAttr X.K (ca X.K c) (Str.ofString f)) (ha : PE X a (tW X.K W ow ma))
    (hb : attributeBase a (Str.ofString f) X.env (eval a X.env) = eval a X.env := by rfl) : PE X (.Attribute a (Str.ofString f) pos) (tE X.K W ow (un (oattr cs f) ma)) :=
  PE.of (pe_fld ha hb) fun σ H Q ⟨A, H0, O, en, R, q⟩ => ⟨A, H0, O, en, R, (Out.bind q).good fun d q1 v H1 s1 r1 => by
    cases d with
    | ins c fs =>
      simp only [oattr] at q1
      split at q1
      · rename_i hc
        obtain ⟨h1, h2⟩ := F c (by simpa using hc)
        obtain ⟨p, dx, fvs, rfl, q2, r2⟩ := r1
        have lk := r2.look (f := f)
        cases hl : fs.lookup f with
        | none =>
          rw [hl] at q1
          exact q1.elim
        | some d' =>
          rw [hl] at q1 lk
          obtain ⟨v', e1, r'⟩ := lk
          exact ⟨p, _, dx, fvs, v', rfl, q2, h1, h2, e1, q1 v' H1 s1 r'⟩
      · exact q1.elim
    | _ => exact q1.elim⟩
/-! ### slices -/
/-- a part of a slice -/
def tO (K : Frag) (W : WX) (ow : Ow) (m : Option EM) : TO := fun σ H Q => ∃ A H0 O e, ER K A H0 ow O σ H e ∧
  Out (slc.bnd m e) (fun o => ∀ H', Same H H' → Q o H') (badE K W A O σ H)
theorem o_none : PO X none (tO X.K W ow none) := ⟨fun pins s σ H Q I ⟨A, H0, O, en, R, q⟩ => po_none.run pins s σ H Q I (q H (Same.refl H))⟩
theorem o_some (h : PE X e (tE X.K W ow m)) : PO X (some e) (tO X.K W ow (some m)) := ⟨fun pins s σ H Q I ⟨A, H0, O, en, R, q⟩ => (po_some h).run pins s σ H Q I ⟨A, H0, O, en, R, (Out.bind q).good fun d q1 v H1 s1 r1 => by
  cases d with
  | int i => exact ⟨i, r1, q1 H1 s1⟩
  | _ => exact q1.elim⟩⟩
theorem x_slc {lo hi : Option Expr} {ml mh : Option EM} {p2 : Pos} (ha : PE X a (tW X.K W ow ma)) (hl : PO X lo (tO X.K W ow ml)) (hh : PO X hi (tO X.K W ow mh)) : PE X (.Subscript a (.Slice lo hi none p2) pos) (tE X.K W ow (slc ma ml mh)) :=
  PE.of (pe_slice y_slc ha hl hh) fun σ H Q ⟨A, H0, O, en, R, q⟩ => ⟨A, H0, O, en, R, (Out.bind q).good fun d q1 v H1 s1 r1 => ⟨A, H0, O, en, R.to s1, ((Out.bind q1).to s1).good fun i q2 H2 s2 => ⟨A, H0, O, en, (R.to s1).to s2, ((Out.bind q2).to (s1.trans s2)).good fun j q3 H3 s3 => by
    cases e : oslc d i j with
    | ok z =>
      rw [e] at q3
      exact ⟨_, d, z, r1.move (s2.trans s3), (((R.to s1).to s2).to s3).there, e, fun v' H' s' r' => q3 v' H' (((s1.trans s2).trans s3).trans s') r'⟩
    | exc c fs =>
      exfalso
      cases d <;> simp only [oslc, reduceCtorEq] at e
      split at e <;> cases e
    | stuck =>
      rw [e] at q3
      exact q3.elim⟩⟩⟩
theorem x_rev {k : Nat} {p1 p2 p3 : Pos} (ha : PE X a (tW X.K W ow ma)) : PE X (.Subscript a (.Slice none none (some (.UnaryOp .USub (.Constant (.int 1) k p1) p2)) p3) pos) (tE X.K W ow (un orev ma)) :=
  PE.of (pe_revL ha) fun σ H Q ⟨A, H0, O, en, R, q⟩ => ⟨A, H0, O, en, R, (Out.bind q).good fun d q1 v H1 s1 r1 => by
    cases d with
    | lst xs =>
      obtain ⟨p, vs, rfl, h, r⟩ := r1
      exact ⟨p, vs, rfl, .inl h, fun p' hp => q1 _ _ (s1.trans (new_same hp)) (new_lst (R.to s1).there r.reverse hp)⟩
    | _ => exact q1.elim⟩
/-! ### built-in calls -/
def c1 (K : Frag) (f : D → Res D) : List V → Hp → VK → Prop := fun vs H Q => ∃ x, vs = [x] ∧ r1 K f x H Q
def c2 (K : Frag) (f : D → D → Res D) : List V → Hp → VK → Prop := fun vs H Q => ∃ x y, vs = [x, y] ∧ r2 K f x y H Q
theorem cimp {f : Value} {r r' : List V → Hp → VK → Prop} (h : CallR X f r) (k : ∀ x H Q, r' x H Q → r x H Q) : CallR X f r' := fun pins s σ H xs us Q I rx q => h pins s σ H xs us Q I rx (k xs H Q q)
theorem x_b1 {id : String} {x : Str} {p : Pos} {f : D → Res D} (hc : CallR X (.builtin id) (c1 X.K f)) (hf : NoEx1 f) (hg : Gl X x) (hm : X.mg x = none) (hv : bootBuiltins x = some (.builtin id)) (ha : PE X a (tW X.K W ow ma)) (hn : x ≠ "__name__" := by decide) (hdb : (x == ("__debug__" : Str)) = false := by decide)
    (hs : starEach [a] X.env = [(false, eval a X.env)] := by rfl) : PE X (.Call (.Name x p) [a] [] pos) (tE X.K W ow (un f ma)) :=
  PE.of (pe_callB hc hg hm hv (pa_cons ha pa_nil hs) hn hdb hs (by rfl)) fun σ H Q h => by
    obtain ⟨A, H0, O, en, R, q⟩ := one_of hf h
    exact ⟨A, H0, O, en, R, q.good fun d k v H' s r => ⟨v, rfl, k v H' s r⟩⟩
theorem x_t1 {id : String} {x : Str} {p : Pos} {f : D → Res D} (hc : CallR X (.type id) (c1 X.K f)) (hf : NoEx1 f) (hg : Gl X x) (hm : X.mg x = none) (hv : bootBuiltins x = some (.type id)) (ha : PE X a (tW X.K W ow ma)) (hn : x ≠ "__name__" := by decide) (hdb : (x == ("__debug__" : Str)) = false := by decide)
    (hs : starEach [a] X.env = [(false, eval a X.env)] := by rfl) : PE X (.Call (.Name x p) [a] [] pos) (tE X.K W ow (un f ma)) :=
  PE.of (pe_callTy hc hg hm hv (pa_cons ha pa_nil hs) hn hdb hs (by rfl)) fun σ H Q h => by
    obtain ⟨A, H0, O, en, R, q⟩ := one_of hf h
    exact ⟨A, H0, O, en, R, q.good fun d k v H' s r => ⟨v, rfl, k v H' s r⟩⟩
theorem x_b2 {id : String} {x : Str} {p : Pos} {f : D → D → Res D} (hc : CallR X (.builtin id) (c2 X.K f)) (hf : NoEx2 f) (hg : Gl X x) (hm : X.mg x = none) (hv : bootBuiltins x = some (.builtin id)) (ha : PE X a (tW X.K W ow ma)) (hb : PE X b (tW X.K W ow mb)) (hn : x ≠ "__name__" := by decide) (hdb : (x == ("__debug__" : Str)) = false := by decide)
    (hs : starEach [a, b] X.env = (false, eval a X.env) :: starEach [b] X.env := by rfl) (hs2 : starEach [b] X.env = [(false, eval b X.env)] := by rfl) (hpl : (backTo pos (starEach [b] X.env)).any (·.1) = false := by rfl) : PE X (.Call (.Name x p) [a, b] [] pos) (tE X.K W ow (bin f ma mb)) :=
  PE.of (pe_callB hc hg hm hv (pa_cons ha (pa_cons hb pa_nil hs2) hs) hn hdb hs hpl) fun σ H Q h => by
    obtain ⟨A, H0, O, en, R, q⟩ := two_of hf h
    refine ⟨A, H0, O, en, R, q.good fun d k v H' s r => ?_⟩
    obtain ⟨A2, H02, O2, en2, R2, q2⟩ := k v H' s r
    exact ⟨A2, H02, O2, en2, R2, q2.good fun d2 k2 v2 H2 s2 r2' => ⟨v, v2, rfl, k2 v2 H2 s2 r2'⟩⟩
theorem v_len0 : CallR X (.builtin "len") (fun vs H Q => ∃ x, vs = [x] ∧ ∃ A d1 d, isDic d1 = false ∧ RepW X.K A H d1 x ∧ blen d1 = .ok d ∧ ∀ v H', Same H H' → Rep X.K A H' d v → Q v H') := cimp call_len fun xs H Q ⟨x, e0, A, d1, d, hnd, h1, e, k⟩ => by
  subst e0
  cases d1 with
  | str s =>
    simp only [blen] at e
    split at e
    · rename_i hz
      simp only [Res.ok.injEq] at e
      subst e
      have h' : x = .str (Str.ofString s) := h1
      subst h'
      exact ⟨_, s.length, rfl, ⟨by rw [str_len]; exact hz, (str_len s).symm⟩, k _ H (Same.refl H) (flat_rep rfl _ _)⟩
    · cases e
  | tup xs =>
    simp only [blen, Res.ok.injEq] at e
    subst e
    obtain ⟨a, vs, rfl, q, r⟩ := (by simpa only [RepW, Rep] using h1 : ∃ a vs, x = .ref a ∧ SqT X.K H a vs ∧ RepL X.K A H xs vs)
    refine ⟨_, xs.length, rfl, .inr ⟨vs, q, r.length⟩, k _ H (Same.refl H) (flat_rep rfl _ _)⟩
  | lst xs =>
    simp only [blen, Res.ok.injEq] at e
    subst e
    obtain ⟨a, vs, rfl, q, r⟩ := h1
    refine ⟨_, xs.length, rfl, .inl ⟨vs, .inl q, r.length⟩, k _ H (Same.refl H) (flat_rep rfl _ _)⟩
  | dic t kvs => simp [isDic] at hnd
  | _ => simp [blen] at e
theorem v_len : CallR X (.builtin "len") (c1 X.K blen) := fun pins s σ H xs us Q I rx ⟨x, e0, A, d1, d, h1, ha, e, k⟩ => by
  cases hnd : isDic d1 with
  | false => exact v_len0 pins s σ H xs us Q I rx ⟨x, e0, A, d1, d, hnd, h1, e, k⟩
  | true =>
    cases d1 <;> simp only [isDic, reduceCtorEq] at hnd
    simp only [blen, Res.ok.injEq] at e
    subst e
    obtain ⟨a, rfl, g⟩ := h1
    subst e0
    cases rx with
    | cons r rr =>
      cases rr
      cases (show _ = Value.ref a from r)
      exact dic_len I g RepT.len RepK.len fun t' s' I' => ⟨.int _, H, I', ⟨t', rfl⟩, k _ H (Same.refl H) (flat_rep rfl _ _)⟩
theorem n_len : NoEx1 blen := fun x c fs => by
  cases x <;> simp only [blen] <;> first | (split <;> exact fun z => nomatch z) | exact fun z => nomatch z
theorem v_int : CallR X (.type "int") (c1 X.K bint) := cimp call_int1 fun xs H Q ⟨x, e0, A, d1, d, h1, _, e, k⟩ => by
  subst e0
  cases d1 with
  | int i =>
    simp only [bint, Res.ok.injEq] at e
    subst e
    have h' : x = .int i := h1
    subst h'
    exact .inl ⟨i, rfl, k _ H (Same.refl H) (flat_rep rfl _ _)⟩
  | bl b =>
    simp only [bint, Res.ok.injEq] at e
    subst e
    have h' : x = .bl b := h1
    subst h'
    exact .inr ⟨b, rfl, k _ H (Same.refl H) (flat_rep rfl _ _)⟩
  | _ => simp [bint] at e
theorem n_int : NoEx1 bint := fun x c fs => by cases x <;> exact fun z => nomatch z
theorem v_tuple : CallR X (.type "tuple") (c1 X.K btuple) := cimp call_tuple_of fun xs H Q ⟨x, e0, A, d1, d, h1, ha, e, k⟩ => by
  subst e0
  cases d1 with
  | lst xs =>
    simp only [btuple, Res.ok.injEq] at e
    subst e
    obtain ⟨a, vs, rfl, q, r⟩ := h1
    exact ⟨a, vs, rfl, .inl ⟨.inl q, fun l hl => k _ _ (new_same hl) (new_tup r hl)⟩⟩
  | tup xs =>
    simp only [btuple, Res.ok.injEq] at e
    subst e
    obtain ⟨a, vs, rfl, q, r⟩ := (by simpa only [RepW, Rep] using h1 : ∃ a vs, x = .ref a ∧ SqT X.K H a vs ∧ RepL X.K A H xs vs)
    exact ⟨a, vs, rfl, .inr ⟨q, k _ H (Same.refl H) h1⟩⟩
  | _ => simp [btuple] at e
theorem n_tuple : NoEx1 btuple := fun x c fs => by cases x <;> exact fun z => nomatch z
theorem ints_of {K : Frag} {A : AS} {H : Hp} : ∀ {ds : List D} {vs : List V} {is : List Int}, RepL K A H ds vs → intsOf ds = some is → vs = is.map V.int
  | [], vs, is, h, e => by
    simp only [RepL] at h
    simp only [intsOf, Option.some.injEq] at e
    subst h e
    rfl
  | d :: ds, vs, is, h, e => by
    simp only [RepL] at h
    obtain ⟨v, r, rfl, h1, h2⟩ := h
    cases d with
    | int i =>
      simp only [intsOf] at e
      cases q : intsOf ds with
      | none => rw [q] at e; cases e
      | some js =>
        rw [q] at e
        have e2 : i :: js = is := Option.some.inj e
        subst e2
        have h1' : v = .int i := h1
        rw [h1', ints_of h2 q]
        rfl
    | _ => simp [intsOf] at e
theorem bools_of {K : Frag} {A : AS} {H : Hp} : ∀ {ds : List D} {vs : List V} {is : List Bool}, RepL K A H ds vs → boolsOf ds = some is → vs = is.map V.bl
  | [], vs, is, h, e => by
    simp only [RepL] at h
    simp only [boolsOf, Option.some.injEq] at e
    subst h e
    rfl
  | d :: ds, vs, is, h, e => by
    simp only [RepL] at h
    obtain ⟨v, r, rfl, h1, h2⟩ := h
    cases d with
    | bl i =>
      simp only [boolsOf] at e
      cases q : boolsOf ds with
      | none => rw [q] at e; cases e
      | some js =>
        rw [q] at e
        have e2 : i :: js = is := Option.some.inj e
        subst e2
        have h1' : v = .bl i := h1
        rw [h1', bools_of h2 q]
        rfl
    | _ => simp [boolsOf] at e
theorem v_sum (hc : X.calm = true) : CallR X (.builtin "sum") (c1 X.K bsum) := cimp (cr_sum hc) fun xs H Q ⟨x, e0, A, d1, d, h1, ha, e, k⟩ => by
  subst e0
  cases d1 with
  | lst xs =>
    simp only [bsum] at e
    split at e
    · rename_i is hi
      simp only [Res.ok.injEq] at e
      subst e
      obtain ⟨a, vs, rfl, q, r⟩ := h1
      have e1 := ints_of r hi
      subst e1
      exact ⟨a, is, rfl, .inl q, k _ H (Same.refl H) (flat_rep rfl _ _)⟩
    · cases e
  | _ => simp [bsum] at e
theorem v_all (hc : X.calm = true) : CallR X (.builtin "all") (c1 X.K ball) := cimp (cr_all hc) fun xs H Q ⟨x, e0, A, d1, d, h1, ha, e, k⟩ => by
  subst e0
  cases d1 with
  | lst xs =>
    simp only [ball] at e
    split at e
    · rename_i is hi
      simp only [Res.ok.injEq] at e
      subst e
      obtain ⟨a, vs, rfl, q, r⟩ := h1
      have e1 := bools_of r hi
      subst e1
      exact ⟨a, is, rfl, .inl q, k _ H (Same.refl H) (flat_rep rfl _ _)⟩
    · cases e
  | _ => simp [ball] at e
theorem n_sum : NoEx1 bsum := fun x c fs => by
  cases x <;> simp only [bsum] <;> first | (split <;> exact fun z => nomatch z) | exact fun z => nomatch z
theorem n_all : NoEx1 ball := fun x c fs => by
  cases x <;> simp only [ball] <;> first | (split <;> exact fun z => nomatch z) | exact fun z => nomatch z
theorem v_min2 (hc : X.calm = true) : CallR X (.builtin "min") (c2 X.K bmin2) := cimp (call_min2 hc) fun xs H Q ⟨x, y, e0, A, d1, d2, d, h1, h2, ha, e, k⟩ => by
  subst e0
  cases d1 <;> cases d2 <;> simp only [bmin2, Res.ok.injEq, reduceCtorEq] at e
  subst e
  rename_i i j
  exact ⟨i, j, by rw [rep_int h1, rep_int h2], k _ H (Same.refl H) (flat_rep rfl _ _)⟩
theorem n_min2 : NoEx2 bmin2 := fun x y c fs => by cases x <;> cases y <;> exact fun z => nomatch z
theorem x_bits {apos : Pos} (ha : PE X a (tW X.K W ow ma)) (hbase : attributeBase a "bit_length" X.env (eval a X.env) = eval a X.env := by rfl) (hline : (apos.endLine == pos.line) = true := by rfl) : PE X (.Call (.Attribute a "bit_length" apos) [] [] pos) (tE X.K W ow (un bbits ma)) :=
  PE.of (pe_bits ha hbase hline) fun σ H Q ⟨A, H0, O, en, R, q⟩ => ⟨A, H0, O, en, R, (Out.bind q).good fun d q1 v H1 s1 r1 => by
    cases d with
    | int i => exact ⟨i, r1, q1 _ H1 s1 (flat_rep rfl _ _)⟩
    | _ => exact q1.elim⟩
/-- list(x) as a new list -/
theorem f_list {x : Str} {p : Pos} (hx : x = "list") (hg : Gl X x) (hm : X.mg x = none) (ha : PE X a (tW X.K W ow ma)) (hs : starEach [a] X.env = [(false, eval a X.env)] := by rfl) : PE X (.Call (.Name x p) [a] [] pos) (tF X.K W ow (un blist ma)) := by
  subst hx
  refine PE.of (pe_callTy call_list_of hg hm (by decide +kernel) (pa_cons ha pa_nil hs) (by decide) (by decide) hs (by rfl)) fun σ H Q ⟨A, H0, O, en, R, q⟩ => ⟨A, H0, O, en, R, (Out.bind q).good fun d q1 v H1 s1 r1 => ?_⟩
  cases d with
  | lst xs =>
    obtain ⟨a, vs, rfl, q, r⟩ := r1
    exact ⟨a, vs, rfl, .inl (.inl q), fun l hl => q1 l _ (s1.free hl) (s1.trans (new_same hl)) ⟨vs, upd_same, RepL.move ⟨fun b hb => hb.elim .inl fun z => by subst z; exact .inr hl, fun b o e _ => new_same hl b o e⟩ _ _ r⟩⟩
  | tup xs =>
    obtain ⟨a, vs, rfl, q, r⟩ := (by simpa only [RepW, Rep] using r1 : ∃ a vs, v = .ref a ∧ SqT X.K H1 a vs ∧ RepL X.K (AO A O) H1 xs vs)
    exact ⟨a, vs, rfl, .inr q, fun l hl => q1 l _ (s1.free hl) (s1.trans (new_same hl)) ⟨vs, upd_same, RepL.move ⟨fun b hb => hb.elim .inl fun z => by subst z; exact .inr hl, fun b o e _ => new_same hl b o e⟩ _ _ r⟩⟩
  | _ => exact q1.elim
end
end Py
/-! What is walked, targets, comprehensions. -/
namespace Py
open PySem L2
/-- J gives the data xs, one a turn, as long as the heap moves so -/
def Itm (M : AS → Hp → AS → Hp → Prop) (K : Frag) (A : AS) (J : It) (xs : List D) (H : Hp) : Prop := ∀ i A2 H2, M A H A2 H2 →
  (i < xs.length → J.go i H2 ∧ ∀ x H3, J.yld i H2 x H3 → Same H2 H3 ∧ ∃ d, xs[i]? = some d ∧ Rep K A2 H3 d x) ∧ (i = xs.length → J.stop i H2)
/-- .. as it only grows -/
def Gr (A : AS) (H : Hp) (A' : AS) (H' : Hp) : Prop := (∀ a, A' a → A a ∨ H a = none) ∧ Same H H'
theorem Gr.mv {A A' : AS} {H H' : Hp} (h : Gr A H A' H') : Mv A H A' H' := ⟨h.1, fun a o e _ => h.2 a o e⟩
abbrev MvT := AS → Hp → AS → Hp → Prop
theorem Itm.gr {K : Frag} {A : AS} {J : It} {xs : List D} {H : Hp} (h : Itm Mv K A J xs H) : Itm Gr K A J xs H := fun i A2 H2 m => h i A2 H2 m.mv
def tI (M : MvT) (K : Frag) (W : WX) (ow : Ow) (m : IM) : TI := fun σ H R => ∃ A H0 O e, ER K A H0 ow O σ H e ∧
  Out (m e) (fun xs => ∀ J H', Same H H' → Itm M K (AO A O) J xs H' → R J H') (badE K W A O σ H)
theorem PI.of {X : Cx} {tg iter : Expr} {t t' : TI} (h : PI X tg iter t) (k : ∀ σ H R, t' σ H R → t σ H R) : PI X tg iter t' := ⟨fun pins s σ H R I q => h.run pins s σ H R I (k σ H R q)⟩
section
variable {X : Cx} {W : WX} {A : AS} {H0 : Base} {ow : Ow} {tg a b c e : Expr} {es : List Expr} {m ma mb mc : EM} {am : AM} {pos p : Pos}
/-- a list or a tuple -/
theorem pi_either {l : Expr} {tl : TE} (hl : PE X l tl) : PI X tg l (fun σ H R => tl σ H fun x H1 => ∃ a, x = .ref a ∧ ((∃ xs, SqL X.K H1 a xs ∧ R (Itl X.K a) H1) ∨ ∃ xs, SqT X.K H1 a xs ∧ R (Itt X.K a) H1)) := by
  refine ⟨fun pins s σ H R I h => ?_⟩
  refine thn (hl.run pins s σ H _ I h) fun v s1 ⟨x, H1, I1, r1, q1⟩ => ?_
  obtain ⟨a, e, q⟩ := q1
  subst e
  cases r1
  have fin : ∀ b ∈ [s1.heap.objs.size], FpOk X pins H1 b := fun b hb => by
    have e : b = s1.heap.objs.size := by simpa using hb
    subst e
    exact I1.fpOk (Nat.le_refl _) (I1.hok.fresh (Nat.le_refl _))
  rcases q with ⟨xs, hq, q⟩ | ⟨xs, hq, q⟩
  · obtain ⟨its, rv, p, hz⟩ := I1.list hq
    refine wpAny_pyIter_list p.isList ?_
    exact ⟨s1.heap.objs.size, [s1.heap.objs.size], _, _, H1, rfl, I1.kept (t' := s1.toks) fun b o e => Heap.get?_push_of_some _ e, turn_list a _, ⟨_, Heap.get?_push_size _ rfl, rfl, rfl⟩, fin, q⟩
  · obtain ⟨its, rv, p, hz⟩ := I1.tuple hq
    refine wpAny_pyIter_tuple (show s1.heap.IsTuple a its.toArray from p) ?_
    exact ⟨s1.heap.objs.size, [s1.heap.objs.size], _, _, H1, rfl, I1.kept (t' := s1.toks) fun b o e => Heap.get?_push_of_some _ e, turn_tuple a _, ⟨_, Heap.get?_push_size _ rfl, rfl, rfl⟩, fin, q⟩
theorem itm_tup {K : Frag} {A : AS} {H : Hp} {a : Addr} {ds : List D} {vs : List V} (q : SqT K H a vs) (r : RepL K A H ds vs) : Itm Mv K A (Itt K a) ds H := fun i A2 H2 m => by
  have q2 := SqT.move m q
  have r2 := RepL.move m ds vs r
  refine ⟨fun hi => ?_, fun hi => ⟨vs, q2, by rw [← r.length]; exact Nat.le_of_eq hi.symm⟩⟩
  obtain ⟨v, hv, rv⟩ := r2.get (i := i) (List.getElem?_eq_getElem hi)
  refine ⟨⟨vs, v, q2, hv⟩, fun x H3 ⟨e, k⟩ => ?_⟩
  subst e
  have := k vs q2
  rw [hv] at this
  cases this
  exact ⟨Same.refl _, _, List.getElem?_eq_getElem hi, rv⟩
theorem itm_lst {M : MvT} {K : Frag} {A : AS} {H : Hp} {a : Addr} {ds : List D} {vs : List V} (hM : ∀ A2 H2, M A H A2 H2 → Mv A H A2 H2 ∧ Rd H2 a (.lst vs)) (r : RepL K A H ds vs) : Itm M K A (Itl K a) ds H := fun i A2 H2 m => by
  obtain ⟨mv, rd⟩ := hM A2 H2 m
  have q2 : SqL K H2 a vs := .inl rd
  have r2 := RepL.move mv ds vs r
  refine ⟨fun hi => ?_, fun hi => ⟨vs, q2, by rw [← r.length]; exact Nat.le_of_eq hi.symm⟩⟩
  obtain ⟨v, hv, rv⟩ := r2.get (i := i) (List.getElem?_eq_getElem hi)
  refine ⟨⟨vs, v, q2, hv⟩, fun x H3 ⟨e, k⟩ => ?_⟩
  subst e
  have := k vs q2
  rw [hv] at this
  cases this
  exact ⟨Same.refl _, _, List.getElem?_eq_getElem hi, rv⟩
/-- for a for: a clean list or tuple -/
theorem i_seq (ha : PE X a (tE X.K W ow ma)) : PI X tg a (tI Mv X.K W ow (iseq ma)) :=
  PI.of (pi_either ha) fun σ H R' ⟨A, H0, O, en, R, q⟩ => ⟨A, H0, O, en, R, (Out.bind q).good fun d q1 v H1 s1 r1 => by
    cases d with
    | lst xs =>
      obtain ⟨p, vs, rfl, n, h, r⟩ := (by simpa only [Rep] using r1 : ∃ a vs, v = .ref a ∧ ¬ AO A O a ∧ Rd H1 a (.lst vs) ∧ RepL X.K (AO A O) H1 xs vs)
      exact ⟨p, rfl, .inl ⟨vs, .inl h, q1 _ H1 s1 (itm_lst (fun A2 H2 m => ⟨m, (Rd.move m h n).1⟩) r)⟩⟩
    | tup xs =>
      obtain ⟨p, vs, rfl, h, r⟩ := (by simpa only [Rep] using r1 : ∃ a vs, v = .ref a ∧ SqT X.K H1 a vs ∧ RepL X.K (AO A O) H1 xs vs)
      exact ⟨p, rfl, .inr ⟨vs, h, q1 _ H1 s1 (itm_tup h r)⟩⟩
    | _ => exact q1.elim⟩
theorem i_gr {it : IM} (h : PI X tg a (tI Mv X.K W ow it)) : PI X tg a (tI Gr X.K W ow it) :=
  PI.of h fun σ H R' ⟨A, H0, O, en, R, q⟩ => ⟨A, H0, O, en, R, q.good fun xs k J H' s i => k J H' s i.gr⟩
theorem itm_range {K : Frag} {A : AS} {H : Hp} {lo hi : Int} : Itm Mv K A (Itr lo (hi - lo).toNat) (rngL lo hi) H := fun i A2 H2 m => by
  have hl : (rngL lo hi).length = (hi - lo).toNat := by unfold rngL; simp
  rw [hl]
  refine ⟨fun h => ⟨h, fun x H3 ⟨e1, e2⟩ => ?_⟩, fun h => Nat.le_of_eq h.symm⟩
  subst e1 e2
  refine ⟨Same.refl _, .int (lo + (i : Nat)), ?_, rfl⟩
  unfold rngL
  rw [List.getElem?_map, List.getElem?_range h]
  rfl
theorem nb62 {n : Int} (h : n.natAbs < B62) : -(2 : Int) ^ 62 ≤ n ∧ n < 2 ^ 62 := by
  have e : (2 : Int) ^ 62 = 4611686018427387904 := by decide
  rw [e]
  unfold B62 at h
  omega
theorem rng1_of {σ : L2.St} {H : Hp} {R' : It → Hp → Prop} (h : tI Mv X.K W ow (irng1 ma) σ H R') : iRng1 (tCons (tE X.K W ow ma) tNil) σ H R' := by
  obtain ⟨A, H0, O, en, R, q⟩ := h
  refine ⟨A, H0, O, en, R, (Out.bind q).good fun d q1 v H1 s1 r1 => ?_⟩
  cases d with
  | int n =>
    simp only at q1
    split at q1
    · rename_i z
      have r1' : v = .int n := r1
      subst r1'
      refine ⟨n, rfl, (nb62 z).1, (nb62 z).2, ?_⟩
      have k := q1 (Itr 0 (n - 0).toNat) H1 s1 itm_range
      have e : n - 0 = n := Int.sub_zero n
      rw [e] at k
      exact k
    · exact q1.elim
  | _ => exact q1.elim
theorem i_rng1 (hg : Gl X "range") (hm : X.mg "range" = none) (ha : PE X a (tE X.K W ow ma)) (hs : starEach [a] X.env = [(false, eval a X.env)] := by rfl) : PI X tg (.Call (.Name "range" p) [a] [] pos) (tI Mv X.K W ow (irng1 ma)) :=
  PI.of (pi_range1 hg hm (pa_cons ha pa_nil hs) hs) fun σ H R' h => rng1_of h
/-! ### targets -/
/-- a target: ts are the slots that it sets -/
def tGt (K : Frag) (ow : Ow) (ts : List Nat) (g : GM) : TG := fun v σ H Q => ∃ A H0 O e d e', ER K A H0 ow O σ H e ∧ Rep K (AO A O) H d v ∧ g d e = some e' ∧
  ∀ σ', ER K A H0 ow O σ' H e' → σ'.length = σ.length → (∀ j, j ∉ ts → σ'[j]? = σ[j]?) → Q σ' H
theorem PG.of {tg : Expr} {t t' : TG} (h : PG X tg t) (k : ∀ v σ H Q, t' v σ H Q → t v σ H Q) : PG X tg t' := ⟨fun pins s σ H v u Q I r q => h.run pins s σ H v u Q I r (k v σ H Q q)⟩
theorem g_nm {i : Nat} (h : PG X tg (gName i)) (hi : ow i = false) : PG X tg (tGt X.K ow [i] (gnm i)) :=
  PG.of h fun v σ H Q ⟨A, H0, O, en, d, e', R, r, g, q⟩ => by
    cases g
    exact q _ (R.set hi r) (by simp) fun j hj => by
      have : i ≠ j := fun z => hj (by simp [z])
      rw [List.getElem?_set_ne this]
def tGts (K : Frag) (ow : Ow) (ts : List Nat) (gs : List GM) : TGs := fun vs σ H Q => ∃ A H0 O e ds e', ER K A H0 ow O σ H e ∧ RepL K (AO A O) H ds vs ∧ gtupL gs ds e = some e' ∧
  ∀ σ', ER K A H0 ow O σ' H e' → σ'.length = σ.length → (∀ j, j ∉ ts → σ'[j]? = σ[j]?) → Q σ' H
theorem PGs.of {tg : List Expr} {t t' : TGs} (h : PGs X tg t) (k : ∀ v σ H Q, t' v σ H Q → t v σ H Q) : PGs X tg t' := ⟨fun pins s σ H v u Q I r q => h.run pins s σ H v u Q I r (k v σ H Q q)⟩
theorem gs_nil : PGs X [] (tGts X.K ow [] []) := PGs.of pgs_nil fun vs σ H Q ⟨A, H0, O, en, ds, e', R, r, g, q⟩ => by
  cases ds with
  | nil =>
    simp only [RepL] at r
    subst r
    cases g
    exact ⟨rfl, q σ R rfl fun _ _ => rfl⟩
  | cons d ds => cases g
theorem gs_cons {ts us : List Nat} {g : GM} {gs : List GM} (h1 : PG X e (tGt X.K ow ts g)) (h2 : PGs X es (tGts X.K ow us gs))
    (hs : (assignEach (e :: es) X.env).map (·.2) = assign e X.env :: (assignEach es X.env).map (·.2) := by rfl) : PGs X (e :: es) (tGts X.K ow (ts ++ us) (g :: gs)) :=
  PGs.of (pgs_cons h1 h2 hs) fun vs σ H Q ⟨A, H0, O, en, ds, e', R, r, ge, q⟩ => by
    cases ds with
    | nil => cases ge
    | cons d ds =>
      simp only [RepL] at r
      obtain ⟨v, r', rfl, r1, r2⟩ := r
      simp only [gtupL] at ge
      cases e1 : g d en with
      | none => rw [e1] at ge; cases ge
      | some en1 =>
        rw [e1] at ge
        refine ⟨v, r', rfl, A, H0, O, en, d, en1, R, r1, e1, fun σ1 R1 l1 k1 => ⟨A, H0, O, en1, ds, e', R1, r2, ge, fun σ2 R2 l2 k2 => q σ2 R2 (l2.trans l1) fun j hj => ?_⟩⟩
        rw [k2 j fun z => hj (by simp [z]), k1 j fun z => hj (by simp [z])]
theorem gtupL_len : ∀ {gs : List GM} {ds : List D} {e e' : Env}, gtupL gs ds e = some e' → ds.length = gs.length
  | [], [], _, _, _ => rfl
  | [], _ :: _, _, _, h => by cases h
  | _ :: _, [], _, _, h => by cases h
  | g :: gs, d :: ds, e, e', h => by
    simp only [gtupL] at h
    cases e1 : g d e with
    | none => rw [e1] at h; cases h
    | some e2 =>
      rw [e1] at h
      simp only [List.length_cons]
      rw [gtupL_len (show gtupL gs ds e2 = some e' from h)]
theorem g_tup {ts : List Nat} {gs : List GM} {n k : Nat} (hc : X.calm = true) (h : PGs X es (tGts X.K ow ts gs)) (hn : (assignEach es X.env).length = n := by rfl) (hl : gs.length = n := by rfl)
    (hst : (assignEach es X.env).findIdx? (·.1) = none := by rfl) : PG X (.Tuple es k pos) (tGt X.K ow ts (gtup gs)) :=
  PG.of (pg_tup hc h hn hst) fun v σ H Q ⟨A, H0, O, en, d, e', R, r, g, q⟩ => by
    cases d with
    | tup xs =>
      obtain ⟨a, vs, rfl, h, r⟩ := (by simpa only [Rep] using r : ∃ a vs, v = .ref a ∧ SqT X.K H a vs ∧ RepL X.K (AO A O) H xs vs)
      exact ⟨a, vs, rfl, h, by rw [← r.length, ← hl]; exact gtupL_len g, A, H0, O, en, xs, e', R, r, g, q⟩
    | _ => cases g
/-! ### comprehensions -/
abbrev W0 : WX := fun _ _ _ _ => False
theorem wipe_eq : ∀ {vs : List Nat} {σ σ' : L2.St}, σ'.length = σ.length → (∀ j, j ∉ vs → σ'[j]? = σ[j]?) → L2.wipe σ' vs = L2.wipe σ vs := fun {vs σ σ'} hl h => by
  apply List.ext_getElem?
  intro i
  by_cases hi : i ∈ vs
  · have key : ∀ (us : List Nat) (τ : L2.St), i ∈ us → (L2.wipe τ us)[i]? = if i < τ.length then some none else none := by
      intro us τ
      induction us with
      | nil => intro h; cases h
      | cons u us ih =>
        intro hm
        unfold L2.wipe
        by_cases hu : u = i
        · subst hu
          rw [List.getElem?_set]
          simp only [if_true, L2.wipe_length]
        · rw [List.getElem?_set_ne hu]
          exact ih (by
            rcases List.mem_cons.mp hm with z | z
            · exact absurd z.symm hu
            · exact z)
    rw [key vs σ' hi, key vs σ hi, hl]
  · rw [L2.wipe_out hi, L2.wipe_out hi]
    exact h i hi
theorem compL_drop {f : D → Res (Option D)} {xs : List D} {i : Nat} {ys : List D} (hi : i < xs.length) (h : compL f (xs.drop i) = .ok ys) :
    ∃ o zs, f xs[i] = .ok o ∧ compL f (xs.drop (i + 1)) = .ok zs ∧ ys = match o with | some y => y :: zs | none => zs := by
  rw [List.drop_eq_getElem_cons hi] at h
  simp only [compL] at h
  cases e1 : f xs[i] with
  | ok o =>
    rw [e1, bind_ok] at h
    cases e2 : compL f (xs.drop (i + 1)) with
    | ok zs =>
      rw [e2, bind_ok] at h
      exact ⟨o, zs, rfl, rfl, (Res.ok.inj h).symm⟩
    | exc _ _ => rw [e2] at h; cases h
    | stuck => rw [e2] at h; cases h
  | exc _ _ => rw [e1] at h; cases h
  | stuck => rw [e1] at h; cases h
theorem noexc_of {α β : Type} {r : Res α} {k : α → Res β} {good : β → Prop} {bad : String → List (String × D) → Prop} (h : Out (noexc r >>= k) good bad) : ∃ a, r = .ok a ∧ Out (k a) good bad := by
  cases r with
  | ok a => exact ⟨a, rfl, h⟩
  | exc c fs => exact h.elim
  | stuck => exact h.elim
theorem ER.more {K : Frag} {A A' : AS} {H0 : Base} {ow : Ow} {O : OW} {σ : L2.St} {H H' : Hp} {e : Env} (R : ER K A H0 ow O σ H e) (h0 : ∀ a, A' a → H' a ≠ none) (s : Same H H') (hA : ∀ a, A' a → A a ∨ H a = none) (hA2 : ∀ a, A a → A' a) : ER K A' H0 ow O σ H' e := by
  have mv : Mv (AO A O) H (AO A' O) H' := ⟨fun a ha => by
    rcases ha with ha | ha
    · rcases hA a ha with z | z
      · exact .inl (.inl z)
      · exact .inr z
    · exact .inl (.inr ha), fun a o e _ => s a o e⟩
  refine ⟨R.len, h0, R.same.trans s, fun i d h1 h2 => ?_, fun i d h1 h2 => ?_, fun i a h => ⟨(R.fresh i a h).1, ne_none s (R.fresh i a h).2.1, fun z => (hA a z).elim (R.fresh i a h).2.2 (R.fresh i a h).2.1⟩, R.inj, R.pin, R.exq.heap mv fun da fvs e => s _ _ e⟩
  · obtain ⟨v, q, r⟩ := R.vals i d h1 h2
    exact ⟨v, q, Rep.move mv _ _ r⟩
  · obtain ⟨a, q, q2, r⟩ := R.owns i d h1 h2
    refine ⟨a, q, q2, r.move mv ?_⟩
    cases z : H a with
    | none => exact absurd z (R.fresh i a q).2.1
    | some o => exact s a o z
/-- [elt for tg in iter if test]; vs: the block's own names, ts: those that the target sets -/
theorem lc_of {K : Frag} {it : IM} {vs ts : List Nat} {g : GM} {t : TM} {elt : EM} (hx : ow.x = none) (hts : ∀ j ∈ ts, j ∈ vs) {σ : L2.St} {H : Hp} {Q : VK} (h : tF K W ow (lcE it vs g t elt) σ H Q) :
    tLc (tI Gr K W ow it) (tGt K ow ts g) (tT K W0 ow t) (tE K W0 ow elt) vs σ H Q := by
  obtain ⟨A, H0, O, en, R, q⟩ := h
  refine ⟨A, H0, O, en, R, (Out.bind q).good fun xs q1 J H1 s1 itm D hD => ?_⟩
  obtain ⟨ys, hys, q2⟩ := noexc_of q1
  by_cases hsz : xs.length ≤ SZ
  case neg =>
    unfold chk at q2
    rw [if_neg hsz] at q2
    exact q2.elim
  unfold chk at q2
  rw [if_pos hsz] at q2
  have hsl : SZ = sizeLine := rfl
  have R1 := R.to s1
  have hAD : ¬ AO A O D := fun z => R1.there D z hD
  generalize hA' : (fun b => A b ∨ b = D : AS) = A'
  have hA1 : ∀ b, AO A' O b → AO A O b ∨ b = D := fun b hb => by
    subst hA'
    rcases hb with (hb | hb) | hb
    · exact .inl (.inl hb)
    · exact .inr hb
    · exact .inl (.inr hb)
  have hA2 : ∀ b, AO A O b ∨ b = D → AO A' O b := fun b hb => by
    subst hA'
    rcases hb with (hb | hb) | hb
    · exact .inl (.inl hb)
    · exact .inr hb
    · exact .inl (.inr hb)
  refine ⟨fun i m H' => m = xs.length - i ∧ i ≤ xs.length ∧ ∃ acc vs' zs, H' D = some (.lst vs') ∧ Same H1 H' ∧ acc.length ≤ i ∧ compL (compF vs g t elt en) (xs.drop i) = .ok zs ∧ ys = acc ++ zs ∧ RepL K (AO A' O) H' acc vs', ⟨xs.length, by simp, Nat.zero_le _, [], [], ys, upd_same, new_same hD, Nat.le_refl _, hys, rfl, by simp [RepL]⟩, ?_⟩
  rintro i m H' ⟨rfl, hi, acc, vs', zs, hH', s2, hal, hz, hyz, hr2⟩
  have im := itm i (AO A' O) H' ⟨fun b hb => (hA1 b hb).elim .inl fun z => by rw [z]; exact .inr hD, s2⟩
  by_cases hlt : i < xs.length
  · right
    obtain ⟨hgo, hy⟩ := im.1 hlt
    obtain ⟨o, zs', hf, hz', hzs⟩ := compL_drop hlt hz
    refine ⟨hgo, fun H'' => ∃ acc vs' zs, H'' D = some (.lst vs') ∧ Same H1 H'' ∧ acc.length ≤ i + 1 ∧ compL (compF vs g t elt en) (xs.drop (i + 1)) = .ok zs ∧ ys = acc ++ zs ∧ RepL K (AO A' O) H'' acc vs', fun H'' ⟨a1, a2, a3, h1, h2, h3, h4, h5, h6⟩ => ⟨xs.length - (i + 1), by omega, rfl, by omega, a1, a2, a3, h1, h2, h3, h4, h5, h6⟩, fun x H3 y => ?_⟩
    obtain ⟨s3, d, hd, rd⟩ := hy x H3 y
    have hd' : d = xs[i] := by
      rw [List.getElem?_eq_getElem hlt] at hd
      exact (Option.some.inj hd).symm
    subst hd'
    unfold compF at hf
    cases hg : g xs[i] (wipe en vs) with
    | none => rw [hg] at hf; cases hf
    | some e1 =>
      rw [hg, lift_some, bind_ok] at hf
      have s13 := s2.trans s3
      have hD3 : H3 D ≠ none := by
        rw [s3 _ _ hH']
        exact fun z => nomatch z
      have R3 : ER K A' H0 ow O (L2.wipe σ vs) H3 (wipe en vs) := ((R1.more (A' := A') (H' := H3) (fun b hb => by
        rcases hA1 b (.inl hb) with z | z
        · exact (R1.to s13).there b z
        · rw [z]
          exact hD3) s13 (fun b hb => by
        subst hA'
        rcases hb with hb | hb
        · exact .inl hb
        · rw [hb]
          exact .inr hD) (fun b hb => by
        subst hA'
        exact .inl hb))).wipe vs hx
      refine ⟨A', H0, O, wipe en vs, xs[i], e1, R3, rd, hg, fun σ1 Rσ l1 k1 => ⟨?_, ?_⟩⟩
      · have w1 := wipe_eq (vs := vs) (σ := L2.wipe σ vs) (σ' := σ1) l1 fun j hj => k1 j fun z => hj (hts j z)
        rw [w1]
        exact wipe_eq (L2.wipe_length _ _) fun j hj => L2.wipe_out hj
      · cases ht : t e1 with
        | exc c fs => rw [ht] at hf; cases hf
        | stuck => rw [ht] at hf; cases hf
        | ok bb =>
          rw [ht, bind_ok] at hf
          refine ⟨A', H0, O, e1, Rσ, ?_⟩
          rw [ht]
          show ∀ H', Same H3 H' → _
          intro H4 s4
          cases bb with
          | false =>
            rw [if_neg (by decide)] at hf ⊢
            have ho : o = none := (Res.ok.inj hf).symm
            subst ho
            have s5 : Same H' H4 := s3.trans s4
            exact ⟨acc, vs', zs', s5 _ _ hH', s2.trans s5, by omega, hz', by rw [hyz, hzs], RepL.move (Mv.same s5) _ _ hr2⟩
          | true =>
            rw [if_pos rfl] at hf ⊢
            refine ⟨A', H0, O, e1, Rσ.to s4, ?_⟩
            cases he : elt e1 with
            | exc c fs => rw [he] at hf; cases hf
            | stuck => rw [he] at hf; cases hf
            | ok y' =>
              rw [he, bind_ok] at hf
              have ho : o = some y' := (Res.ok.inj hf).symm
              subst ho
              show ∀ v H', Same H4 H' → _
              intro v5 H5 s5 r5
              have s6 : Same H' H5 := (s3.trans s4).trans s5
              have a1 := s6 _ _ hH'
              have hmv : Mv (AO A' O) H5 (AO A' O) (upd H5 D (.lst (vs' ++ [v5]))) := ⟨fun b hb => .inl hb, fun b o' e1 hb => by
                rw [upd_ne]
                · exact e1
                · intro z
                  subst z
                  rcases hb with hb | hb
                  · exact hb (hA2 _ (.inr rfl))
                  · rw [a1] at e1
                    cases e1
                    exact hb⟩
              have rall := (RepL.move (Mv.same s6) _ _ hr2).append (RepL.one r5)
              have hlen := hr2.length
              refine ⟨vs', a1, by omega, acc ++ [y'], vs' ++ [v5], zs', upd_same, fun b o' e1 => ?_, by simp; omega, hz', by rw [hyz, hzs]; simp, RepL.move hmv _ _ rall⟩
              rw [upd_ne (ne_of_none e1 hD)]
              exact s6 _ _ (s2 _ _ e1)
  · left
    refine ⟨im.2 (by omega), ?_⟩
    have hi2 : i = xs.length := by omega
    subst hi2
    rw [List.drop_length] at hz
    have hzz : zs = [] := (Res.ok.inj hz).symm
    subst hzz
    rw [List.append_nil] at hyz
    subst hyz
    exact q2 D H' (s1.free hD) (s1.trans s2) ⟨vs', hH', RepL.move (Mv.less fun b hb => hA2 b hb) _ _ hr2⟩
end
end Py
/-! Statements. -/
namespace Py
open PySem L2
section
variable {K : Frag} {A : AS} {H0 : Base} {ow : Ow} {O : OW} {σ : L2.St} {H H' : Hp} {e : Env}
/-- every name gives up what it owns -/
theorem ER.freeze (R : ER K A H0 ow O σ H e) : ER K A ⟨H0.hp, none⟩ ow.off (fun _ => none) σ H e := by
  have mv : Mv (AO A O) H (AO A fun _ => none) H := Mv.less fun b hb => hb.elim .inl fun ⟨_, z⟩ => nomatch z
  refine ⟨R.len, R.a0, R.same, fun i d h1 _ => ?_, fun i d h1 h2 => ?_, fun i a h => (nomatch h), fun i j a h => (nomatch h), fun a h => (nomatch h), fun q hq => ?_⟩
  rotate_right
  · obtain ⟨h1, h2, h3, fvs, h4, h5⟩ := R.exq q hq
    refine ⟨?_, h2, h3, fvs, h4, RepF.move mv _ _ h5⟩
    have hq2 : ow.x = some q := hq
    simp only [Ow.off, hq2, beq_self_eq_true]
  rotate_right
  · simp only [Ow.off] at h2
    cases hq : ow.x with
    | none =>
      rw [hq] at h2
      cases h2
    | some q =>
      rw [hq] at h2
      have hi : i = q.i := by simpa using h2
      subst hi
      exact absurd h1 ((R.exq q hq).no d)
  cases hi : ow i with
  | false =>
    obtain ⟨v, q, r⟩ := R.vals i d h1 hi
    exact ⟨v, q, Rep.move mv _ _ r⟩
  | true =>
    obtain ⟨a, q, q2, r⟩ := R.owns i d h1 hi
    refine ⟨.ref a, q2, ?_⟩
    have na : ¬ AO A (fun _ => none) a := fun z => z.elim (R.fresh i a q).2.2 fun ⟨_, w⟩ => nomatch w
    exact r.rep mv na
/-- a name's own object changes -/
theorem ER.write (R : ER K A H0 ow O σ H e) {i : Nat} {a : Addr} {o : HO} {d d' : D} (hi : ow i = true) (he : e[i]? = some (some d)) (ha : O i = some a) (h : OwnAt K (AO A O) (upd H a o) a d') : ER K A H0 ow O σ (upd H a o) (e.set i (some d')) := by
  obtain ⟨a1, q1, q2, r⟩ := R.owns i d he hi
  rw [ha] at q1
  cases q1
  obtain ⟨u0, hu0, hs0, hx0⟩ := r.obj
  have hst : ∀ u, H a = some u → ¬ still u := fun u hu => by
    rw [hu0] at hu
    cases hu
    exact hs0
  have mv : Mv (AO A O) H (AO A O) (upd H a o) := ⟨fun b hb => .inl hb, fun b u e1 hb => by
    rw [upd_ne]
    · exact e1
    · intro z
      subst z
      rcases hb with hb | hb
      · exact hb (.inr ⟨i, ha⟩)
      · exact hst u e1 hb⟩
  have hne : ∀ {H1 : Hp} {b : Addr}, H1 b ≠ none → (upd H1 a o) b ≠ none := fun {H1 b} h => by
    unfold upd
    split
    · exact fun z => nomatch z
    · exact h
  refine ⟨by simp [R.len], fun b hb => hne (R.a0 b hb), fun b u e1 => ?_, fun j dj h1 h2 => ?_, fun j dj h1 h2 => ?_, fun j b hb => ⟨(R.fresh j b hb).1, hne (R.fresh j b hb).2.1, (R.fresh j b hb).2.2⟩, R.inj, R.pin, R.exq.move mv (fun da fvs e1 => (upd_ne fun z => by
    subst z
    rw [hu0] at e1
    exact hx0 _ (Option.some.inj e1)).trans e1) fun j _ n => ⟨rfl, fun dj => by
      have hij : i ≠ j := fun z => by
        subst z
        exact n _ he
      rw [List.getElem?_set_ne hij]
      exact n dj⟩⟩
  · rw [upd_ne]
    · exact R.same b u e1
    · intro z
      rw [z, (R.fresh i a ha).1] at e1
      cases e1
  · have hj : i ≠ j := fun z => by
      subst z
      rw [hi] at h2
      cases h2
    rw [List.getElem?_set_ne hj] at h1
    obtain ⟨v, q, r⟩ := R.vals j dj h1 h2
    exact ⟨v, q, Rep.move mv _ _ r⟩
  · by_cases hj : i = j
    · subst hj
      have hl := (List.getElem?_eq_some_iff.mp he).1
      rw [List.getElem?_set_self hl] at h1
      cases h1
      exact ⟨a, ha, q2, h⟩
    · rw [List.getElem?_set_ne hj] at h1
      obtain ⟨b, p1, p2, p3⟩ := R.owns j dj h1 h2
      have hba : b ≠ a := fun z => by
        subst z
        exact hj (R.inj i j b ha p1)
      exact ⟨b, p1, p2, p3.move mv (upd_ne hba)⟩
/-- a name gets an object of its own -/
theorem ER.take (R : ER K A H0 ow O σ H e) {i : Nat} {a : Addr} {d : D} (s : Same H H') (hxi : ∀ q, ow.x = some q → q.i ≠ i) (hi : ow i = true) (h0 : 0 < i) (hn : H a = none) (h : OwnAt K (fun b => AO A O b ∨ b = a) H' a d) :
    ER K A H0 ow (fun j => if j = i then some a else O j) (σ.set i (some (.ref a))) H' (e.set i (some d)) ∧ Mv (AO A O) H (AO A fun j => if j = i then some a else O j) H' := by
  have sub : ∀ b, AO A (fun j => if j = i then some a else O j) b → AO A O b ∨ b = a := fun b hb => by
    rcases hb with hb | ⟨j, hb⟩
    · exact .inl (.inl hb)
    · by_cases hj : j = i
      · simp only [hj, if_true, Option.some.injEq] at hb
        exact .inr hb.symm
      · simp only [hj, if_false] at hb
        exact .inl (.inr ⟨j, hb⟩)
  have mv : Mv (AO A O) H (AO A fun j => if j = i then some a else O j) H' := ⟨fun b hb => (sub b hb).elim .inl fun z => by rw [z]; exact .inr hn, fun b o e1 _ => s b o e1⟩
  have mv2 : Mv (fun b => AO A O b ∨ b = a) H' (AO A fun j => if j = i then some a else O j) H' := Mv.less sub
  have ha : H' a ≠ none := by
    obtain ⟨u, hu, _, _⟩ := h.obj
    rw [hu]
    exact fun z => nomatch z
  refine ⟨⟨by simp [R.len], fun b hb => ne_none s (R.a0 b hb), R.same.trans s, fun j dj h1 h2 => ?_, fun j dj h1 h2 => ?_, fun j b hb => ?_, fun j k b hj hk => ?_, fun b hb => ?_, fun q hq => ?_⟩, mv⟩
  rotate_right
  · obtain ⟨z1, z2, z3, fvs, z4, z5⟩ := R.exq q hq
    have hne : i ≠ q.i := fun z => hxi q hq z.symm
    refine ⟨z1, ?_, ?_, fvs, s _ _ z4, RepF.move mv _ _ z5⟩ <;> rw [List.getElem?_set_ne hne]
    · exact z2
    · exact z3
  · have hj : i ≠ j := fun z => by
      subst z
      rw [hi] at h2
      cases h2
    rw [List.getElem?_set_ne hj] at h1
    obtain ⟨v, q, r⟩ := R.vals j dj h1 h2
    exact ⟨v, by rw [List.getElem?_set_ne hj]; exact q, Rep.move mv _ _ r⟩
  · by_cases hj : i = j
    · subst hj
      have hl : i < e.length := by
        have := (List.getElem?_eq_some_iff.mp h1).1
        simpa using this
      rw [List.getElem?_set_self hl] at h1
      cases h1
      exact ⟨a, by simp, List.getElem?_set_self (by rw [R.len]; exact hl), h.move mv2 rfl⟩
    · rw [List.getElem?_set_ne hj] at h1
      obtain ⟨b, p1, p2, p3⟩ := R.owns j dj h1 h2
      have hj' : ¬ j = i := fun z => hj z.symm
      refine ⟨b, by simp only [hj', if_false]; exact p1, by rw [List.getElem?_set_ne hj]; exact p2, p3.move mv ?_⟩
      cases z : H b with
      | none => exact absurd z (R.fresh j b p1).2.1
      | some o => exact s b o z
  · by_cases hj : j = i
    · simp only [hj, if_true, Option.some.injEq] at hb
      subst hb
      refine ⟨?_, ha, fun z => R.a0 a z hn⟩
      cases z : H0.hp a with
      | none => rfl
      | some o =>
        rw [R.same a o z] at hn
        cases hn
    · simp only [hj, if_false] at hb
      exact ⟨(R.fresh j b hb).1, ne_none s (R.fresh j b hb).2.1, (R.fresh j b hb).2.2⟩
  · have old : ∀ l b, O l = some b → b ≠ a := fun l b hl z => by
      rw [z] at hl
      exact (R.fresh l a hl).2.1 hn
    by_cases h1 : j = i
    · by_cases h2 : k = i
      · rw [h1, h2]
      · simp only [h1, if_true, Option.some.injEq] at hj
        simp only [h2, if_false] at hk
        exact absurd hj.symm (old k b hk)
    · by_cases h2 : k = i
      · simp only [h2, if_true, Option.some.injEq] at hk
        simp only [h1, if_false] at hj
        exact absurd hk.symm (old j b hj)
      · simp only [h1, if_false] at hj
        simp only [h2, if_false] at hk
        exact R.inj j k b hj hk
  · have h1 : ¬ 0 = i := fun z => by omega
    simp only [h1, if_false]
    exact R.pin b hb
end
/-- what is given back; fr: an object that is new and its caller's own -/
def RetOk (fr : Bool) (K : Frag) (A : AS) (H0 : Base) (H' : Hp) (d : D) (v : V) : Prop := match fr with
  | false => Rep K A H' d v
  | true => ∃ a, v = .ref a ∧ H0.hp a = none ∧ OwnAt K (fun b => A b ∨ b = a) H' a d
/-- what must hold behind a statement; oN: who owns behind it, oB: who owns at a break, a continue -/
def EndOk3 (fr : Bool) (K : Frag) (A : AS) (H0 : Base) (oN oB : Ow) (O : OW) (H : Hp) (D : Ends) : Fl → Prop
  | .next e' => ∀ O' σ' H', ER K A H0 oN O' σ' H' e' → Mv (AO A O) H (AO A O') H' → D.nx σ' H'
  | .ret d => ∀ v H', Same H0.hp H' → RetOk fr K A H0 H' d v → D.rt v H'
  | .brk e' => ∀ O' σ' H', ER K A H0 oB O' σ' H' e' → Mv (AO A O) H (AO A O') H' → D.bk σ' H'
  | .cnt e' => ∀ O' σ' H', ER K A H0 oB O' σ' H' e' → Mv (AO A O) H (AO A O') H' → D.ct σ' H'
abbrev EndOk (fr : Bool) (K : Frag) (A : AS) (H0 : Base) (ow : Ow) (O : OW) (H : Hp) (D : Ends) : Fl → Prop := EndOk3 fr K A H0 ow ow O H D
theorem EndOk3.to {fr : Bool} {K : Frag} {A : AS} {H0 : Base} {oN oB : Ow} {O O1 : OW} {H H1 : Hp} {D : Ends} (m : Mv (AO A O) H (AO A O1) H1) : ∀ {f : Fl}, EndOk3 fr K A H0 oN oB O H D f → EndOk3 fr K A H0 oN oB O1 H1 D f
  | .next _, h => fun O' σ' H' R n => h O' σ' H' R (m.trans n)
  | .ret _, h => h
  | .brk _, h => fun O' σ' H' R n => h O' σ' H' R (m.trans n)
  | .cnt _, h => fun O' σ' H' R n => h O' σ' H' R (m.trans n)
def badS (K : Frag) (W : WX) (A : AS) (H0 : Base) (c : String) (fs : List (String × D)) : Prop :=
  ∀ σ' da H' fvs, Same H0.hp H' → H' da = some (.xd fvs) → RepF K A H' fs fvs → W (.ref (ca K c)) (some da) σ' H'
theorem badS.e {K : Frag} {W : WX} {A : AS} {H0 : Base} {ow : Ow} {O : OW} {σ : L2.St} {H : Hp} {e : Env} (R : ER K A H0 ow O σ H e) {c : String} {fs : List (String × D)} (h : badS K W A H0 c fs) : badE K W A O σ H c fs := fun da H' fvs s q r =>
  h σ da H' fvs (R.same.trans s) q (RepF.move (Mv.less fun b => .inl) _ _ r)
def tS3 (fr : Bool) (K : Frag) (W : WX) (ow oN oB : Ow) (m : SM) : TS := fun D σ H => ∃ A H0 O e, ER K A H0 ow O σ H e ∧ Out (m e) (EndOk3 fr K A H0 oN oB O H D) (badS K W A H0)
abbrev tS (fr : Bool) (K : Frag) (W : WX) (ow : Ow) (m : SM) : TS := tS3 fr K W ow ow ow m
section
variable {fr : Bool} {X : Cx} {W : WX} {ow : Ow} {a b c e : Expr} {es : List Expr} {m ma mb mc : EM} {st : Stmt} {rest body orelse : List Stmt} {u v : SM} {t : TM} {pos : Pos}
theorem Out.se {α : Type} {K : Frag} {W : WX} {A : AS} {H0 : Base} {ow : Ow} {O : OW} {σ : L2.St} {H : Hp} {e : Env} (R : ER K A H0 ow O σ H e) {r : Res α} {good : α → Prop} (h : Out r good (badS K W A H0)) : Out r good (badE K W A O σ H) := h.imp (fun _ _ x => x) fun _ _ x => x.e R
/-! ### blocks -/
theorem ss_nil : PSs X [] (tS fr X.K W ow skip) := PSs.of pss_nil fun D σ H ⟨A, H0, O, en, R, q⟩ => q O σ H R Mv.refl
theorem ss_one (h : PS X st (tS fr X.K W ow u)) : PSs X [st] (tS fr X.K W ow u) := pss_one h
theorem ss_cons (h : PS X st (tS fr X.K W ow u)) (k : PSs X rest (tS fr X.K W ow v)) : PSs X (st :: rest) (tS fr X.K W ow (seq u v)) :=
  PSs.of (pss_cons h k) fun D σ H ⟨A, H0, O, en, R, q⟩ => ⟨A, H0, O, en, R, (Out.bind q).good fun f q1 => by
    cases f with
    | next e' => exact fun O' σ' H' R' mv => ⟨A, H0, O', e', R', q1.good fun f q2 => q2.to mv⟩
    | ret d => exact q1
    | brk e' => exact q1
    | cnt e' => exact q1⟩
/-! ### assignments -/
theorem s_set {i : Nat} (h : PS X st (tAsg (tE X.K W ow m) (gName i))) (hi : ow i = false) : PS X st (tS fr X.K W ow (asg (gnm i) m)) :=
  PS.of h fun D σ H ⟨A, H0, O, en, R, q⟩ => ⟨A, H0, O, en, R, ((Out.bind q).se R).good fun d q1 v H1 s1 r1 => q1 O _ H1 ((R.to s1).set hi r1) (Mv.same s1)⟩
theorem s_gen {ts : List Nat} {g : GM} (h : PS X st (tAsg (tE X.K W ow m) (tGt X.K ow ts g))) : PS X st (tS fr X.K W ow (asg g m)) :=
  PS.of h fun D σ H ⟨A, H0, O, en, R, q⟩ => ⟨A, H0, O, en, R, ((Out.bind q).se R).good fun d q1 v H1 s1 r1 => by
    cases hg : g d en with
    | none =>
      rw [hg] at q1
      exact q1.elim
    | some e' =>
      rw [hg] at q1
      exact ⟨A, H0, O, en, d, e', R.to s1, r1, hg, fun σ' R' _ _ => q1 O σ' H1 R' (Mv.same s1)⟩⟩
/-- x += e and its like, x a clean name -/
theorem s_aug {i : Nat} {f : D → D → Res D} {te : TE} {tp : TIp} (h : PS X st (tAug i te tp)) (hte : te = tW X.K W ow m) (hp : ∀ x y H Q, r2 X.K f x y H Q → tp x y H Q) (hf : NoEx2 f) (hi : ow i = false) : PS X st (tS fr X.K W ow (aug i f m)) := by
  subst hte
  refine PS.of h fun D σ H ⟨A, H0, O, en, R, q⟩ => ?_
  have q0 := Out.bind q
  unfold var at q0
  split at q0
  · rename_i d0 hd0
    obtain ⟨v0, e0, r0⟩ := R.vals i d0 hd0 hi
    refine ⟨v0, e0, A, H0, O, en, R, ((Out.bind q0).se R).good fun d1 q1 v1 H1 s1 r1 => hp _ _ _ _ ?_⟩
    have R1 := R.to s1
    cases e : f d0 d1 with
    | exc _ _ => exact absurd e (hf _ _ _ _)
    | stuck =>
      rw [e] at q1
      exact q1.elim
    | ok d =>
      rw [e] at q1
      exact ⟨_, d0, d1, d, RepW.of (Rep.move (Mv.same s1) _ _ r0), r1, R1.there, e, fun v2 H2 s2 r2 => q1 O _ H2 ((R1.to s2).set hi r2) (Mv.same (s1.trans s2))⟩
  · exact q0.elim
theorem s_ret (h : PE X a (tE X.K W ow.off m)) : PS X (.Return (some a) pos) (tS false X.K W ow (ret m)) :=
  PS.of (ps_ret h) fun D σ H ⟨A, H0, O, en, R, q⟩ => ⟨A, _, _, en, R.freeze, ((Out.bind (show Out (ret m en) _ (badS X.K W A ⟨H0.hp, none⟩) from q)).se R.freeze).good fun d q1 v H1 s1 r1 =>
    q1 v H1 (R.same.trans s1) (Rep.move (Mv.less fun b => .inl) _ _ r1)⟩
theorem s_brk : PS X (.Break pos) (tS fr X.K W ow brk) := PS.of ps_break fun D σ H ⟨A, H0, O, en, R, q⟩ => q O σ H R Mv.refl
theorem s_if (hc : PT X a (tT X.K W ow t)) (hb : PSs X body (tS fr X.K W ow u)) (ho : PSs X orelse (tS fr X.K W ow v)) : PS X (.If a body orelse pos) (tS fr X.K W ow (ite t u v)) :=
  PS.of (ps_if hc hb ho) fun D σ H ⟨A, H0, O, en, R, q⟩ => ⟨A, H0, O, en, R, ((Out.bind q).se R).good fun k q1 H1 s1 => by
    cases k with
    | true =>
      rw [if_pos rfl] at q1 ⊢
      exact ⟨A, H0, O, en, R.to s1, q1.good fun f q2 => q2.to (Mv.same s1)⟩
    | false =>
      rw [if_neg (by decide)] at q1 ⊢
      exact ⟨A, H0, O, en, R.to s1, q1.good fun f q2 => q2.to (Mv.same s1)⟩⟩
/-! ### loops -/
theorem for_of {it : IM} {ts : List Nat} {g : GM} {D : Ends} {σ : L2.St} {H : Hp} (h : tS fr X.K W ow (for_ it g u) D σ H) : tFor (tI Mv X.K W ow it) (tGt X.K ow ts g) (tS fr X.K W ow u) D σ H := by
  obtain ⟨A, H0, O, en, R, q⟩ := h
  exact ⟨A, H0, O, en, R, ((Out.bind q).se R).good fun xs q1 J H1 s1 itm => by
    refine ⟨fun i m σ' H' => m = xs.length - i ∧ i ≤ xs.length ∧ ∃ O' e', ER X.K A H0 ow O' σ' H' e' ∧ Mv (AO A O) H1 (AO A O') H' ∧ Out (forL (forB g u) (xs.drop i) e') (EndOk fr X.K A H0 ow O H1 D) (badS X.K W A H0),
      ⟨xs.length, by simp, Nat.zero_le _, O, en, R.to s1, Mv.refl, q1.good fun f q2 => q2.to (Mv.same s1)⟩, ?_⟩
    rintro i m σ' H' ⟨rfl, hi, O', e', R', mv, q2⟩
    have im := itm i (AO A O') H' mv
    by_cases hlt : i < xs.length
    · right
      obtain ⟨hgo, hy⟩ := im.1 hlt
      refine ⟨hgo, fun σ' H' => ∃ O' e', ER X.K A H0 ow O' σ' H' e' ∧ Mv (AO A O) H1 (AO A O') H' ∧ Out (forL (forB g u) (xs.drop (i + 1)) e') (EndOk fr X.K A H0 ow O H1 D) (badS X.K W A H0), fun σ2 H2 ⟨a1, a2, a3⟩ => ⟨xs.length - (i + 1), by omega, rfl, by omega, a1, a2, a3⟩, fun x H3 y => ?_⟩
      obtain ⟨s3, d, hd, rd⟩ := hy x H3 y
      have hd' : d = xs[i] := by
        rw [List.getElem?_eq_getElem hlt] at hd
        exact (Option.some.inj hd).symm
      subst hd'
      rw [List.drop_eq_getElem_cons hlt] at q2
      simp only [forL, forB] at q2
      cases hg' : g xs[i] e' with
      | none =>
        rw [hg'] at q2
        exact q2.elim
      | some e2 =>
        rw [hg', lift_some, bind_ok] at q2
        have mv3 : Mv (AO A O) H1 (AO A O') H3 := mv.trans (Mv.same s3)
        refine ⟨A, H0, O', e', xs[i], e2, R'.to s3, rd, hg', fun σ2 R2 _ _ => ⟨A, H0, O', e2, R2, ?_⟩⟩
        cases hu : u e2 with
        | exc c fs =>
          rw [hu] at q2
          exact q2
        | stuck =>
          rw [hu] at q2
          exact q2.elim
        | ok f =>
          rw [hu] at q2
          cases f with
          | next e3 => exact fun O3 σ3 H4 R3 m3 => ⟨O3, e3, R3, mv3.trans m3, q2⟩
          | cnt e3 => exact fun O3 σ3 H4 R3 m3 => ⟨O3, e3, R3, mv3.trans m3, q2⟩
          | brk e3 =>
            have q3 : EndOk fr X.K A H0 ow O H1 D (.next e3) := q2
            exact fun O3 σ3 H4 R3 m3 => q3 O3 σ3 H4 R3 (mv3.trans m3)
          | ret d => exact q2
    · left
      have hi2 : i = xs.length := by omega
      subst hi2
      rw [List.drop_length] at q2
      have q3 : EndOk fr X.K A H0 ow O H1 D (.next e') := q2
      exact ⟨im.2 rfl, q3 O' σ' H' R' mv⟩⟩
theorem s_for {tg iter : Expr} {it : IM} {ts : List Nat} {g : GM} (hp : PassesOwn (model X.prog X.w) X.A X.env X.xe) (hc : X.calm = true) (hi : PI X tg iter (tI Mv X.K W ow it)) (hg : PG X tg (tGt X.K ow ts g)) (hb : PSs X body (tS fr X.K W ow u))
    (hs : ∀ x, foldedSetIterable iter X.env x = pure x := by intro _; rfl) : PS X (.For tg iter body [] pos) (tS fr X.K W ow (for_ it g u)) :=
  PS.of (ps_for hp hc hi hg hb hs) fun D σ H h => for_of h
theorem s_while (hp : PassesOwn (model X.prog X.w) X.A X.env X.xe) (hc : PT X a (tT X.K W ow t)) (hb : PSs X body (tS fr X.K W ow u)) : PS X (.While a body [] pos) (tS fr X.K W ow (while_ t u)) :=
  PS.of (ps_while hp hc hb) fun D σ H ⟨A, H0, O, en, R, q⟩ => by
    refine ⟨fun k σ' H' => ∃ O' e', ER X.K A H0 ow O' σ' H' e' ∧ Mv (AO A O) H (AO A O') H' ∧ Out (whileL t u k e') (EndOk fr X.K A H0 ow O H D) (badS X.K W A H0), ⟨FUEL, O, en, R, Mv.refl, q⟩, ?_⟩
    rintro k σ' H' ⟨O', e', R', mv, q1⟩
    cases k with
    | zero => exact q1.elim
    | succ k =>
      refine ⟨A, H0, O', e', R', ((Out.bind q1).se R').good fun bb q2 H2 s2 => ?_⟩
      have R2 := R'.to s2
      have mv2 := mv.trans (Mv.same (A := AO A O') s2)
      cases bb with
      | false =>
        rw [if_neg (by decide)] at q2
        dsimp only
        rw [if_neg (by decide)]
        have q3 : EndOk fr X.K A H0 ow O H D (.next e') := q2
        exact q3 O' σ' H2 R2 mv2
      | true =>
        rw [if_pos rfl] at q2
        dsimp only
        rw [if_pos rfl]
        refine ⟨fun σ' H' => ∃ O' e', ER X.K A H0 ow O' σ' H' e' ∧ Mv (AO A O) H (AO A O') H' ∧ Out (whileL t u k e') (EndOk fr X.K A H0 ow O H D) (badS X.K W A H0), fun σ3 H3 a => ⟨k, Nat.lt_succ_self _, a⟩, A, H0, O', e', R2, ?_⟩
        cases hu : u e' with
        | exc c fs =>
          rw [hu] at q2
          exact q2
        | stuck =>
          rw [hu] at q2
          exact q2.elim
        | ok f =>
          rw [hu] at q2
          cases f with
          | next e3 => exact fun O3 σ3 H4 R3 m3 => ⟨O3, e3, R3, mv2.trans m3, q2⟩
          | cnt e3 => exact fun O3 σ3 H4 R3 m3 => ⟨O3, e3, R3, mv2.trans m3, q2⟩
          | brk e3 =>
            have q3 : EndOk fr X.K A H0 ow O H D (.next e3) := q2
            exact fun O3 σ3 H4 R3 m3 => q3 O3 σ3 H4 R3 (mv2.trans m3)
          | ret d => exact q2
/-! ### a name's own list, object -/
theorem var_ok {α : Type} {i : Nat} {en : Env} {k : D → Res α} {good : α → Prop} {bad : String → List (String × D) → Prop} (h : Out (var i en >>= k) good bad) : ∃ d, en[i]? = some (some d) ∧ Out (k d) good bad := by
  unfold var at h
  split at h
  · rename_i d hd
    exact ⟨d, hd, h⟩
  · exact h.elim
theorem sqL {K : Frag} {H : Hp} {a : Addr} {vs : List V} (h : H a = some (.lst vs)) : L2.tyV K "list" (.ref a) H := .inl ⟨rfl, vs, .inl (.inl h)⟩
theorem own_mv {K : Frag} {A : AS} {H0 : Base} {ow : Ow} {O : OW} {σ : L2.St} {H : Hp} {en : Env} (R : ER K A H0 ow O σ H en) {i : Nat} {a : Addr} (p1 : O i = some a) {u o : HO} (e : H a = some u) (hs : ¬ still u) : Mv (AO A O) H (AO A O) (upd H a o) :=
  ⟨fun b hb => .inl hb, fun b o e3 hb => by
    rw [upd_ne]
    · exact e3
    · intro z
      subst z
      rcases hb with hb | hb
      · exact hb (.inr ⟨i, p1⟩)
      · rw [e] at e3
        cases e3
        exact hs hb⟩
/-- x.append(e) -/
theorem s_app {i : Nat} (h : PS X st (tDrop (tBM X.K "list" rAppend (tVar i) (tCons (tE X.K W ow m) tNil)))) (hi : ow i = true) : PS X st (tS fr X.K W ow (app i m)) :=
  PS.of h fun D σ H ⟨A, H0, O, en, R, q⟩ => by
    obtain ⟨l, hl, q1⟩ := var_ok q
    obtain ⟨a, p1, p2, p3⟩ := R.owns i l hl hi
    cases l with
    | lst ds =>
      obtain ⟨vs, e1, r1⟩ := p3
      refine ⟨.ref a, p2, sqL e1, A, H0, O, en, R, ((Out.bind q1).se R).good fun d q2 v H1 s1 r2 => ?_⟩
      split at q2
      · rename_i hz
        have e2 := s1 _ _ e1
        refine ⟨a, vs, v, rfl, rfl, e2, by rw [← r1.length]; exact hz, ?_⟩
        have R1 := R.to s1
        have mv := own_mv R1 p1 (o := .lst (vs ++ [v])) e2 fun z => z
        have R2 := R1.write (o := .lst (vs ++ [v])) (d' := .lst (ds ++ [d])) hi hl p1 ⟨_, upd_same, RepL.move mv _ _ ((RepL.move (Mv.same s1) _ _ r1).append (RepL.one r2))⟩
        exact q2 O σ _ R2 ((Mv.same s1).trans mv)
      · exact q2.elim
    | _ => exact q1.elim
/-- x[j] = e -/
theorem s_setL {i : Nat} {mj : EM} (h : PS X st (tAsg (tE X.K W ow m) (gSub (tVar i) (tE X.K W ow mj) (rSetX X.K)))) (hi : ow i = true) : PS X st (tS fr X.K W ow (setL i mj m)) :=
  PS.of h fun D σ H ⟨A, H0, O, en, R, q⟩ => by
    obtain ⟨l, hl, q1⟩ := var_ok q
    obtain ⟨a, p1, p2, p3⟩ := R.owns i l hl hi
    cases l with
    | lst ds =>
      obtain ⟨vs, e1, r1⟩ := p3
      refine ⟨A, H0, O, en, R, ((Out.bind q1).se R).good fun d q2 v H1 s1 r2 => ⟨.ref a, p2, A, H0, O, en, R.to s1, ((Out.bind q2).se (R.to s1)).good fun k q3 w H2 s2 r3 => ?_⟩⟩
      cases k with
      | int z =>
        simp only at q3
        split at q3
        · rename_i n hn
          have s12 := s1.trans s2
          have e2 := s12 _ _ e1
          have r3' : w = .int z := r3
          subst r3'
          refine .inl ⟨a, vs, z, n, rfl, rfl, e2, by rw [← r1.length]; exact hn, ?_⟩
          have R2 := R.to s12
          have mv := own_mv R2 p1 (o := .lst (vs.set n v)) e2 fun z => z
          have R3 := R2.write (o := .lst (vs.set n v)) (d' := .lst (ds.set n d)) hi hl p1 ⟨_, upd_same, RepL.move mv _ _ (RepL.set (Rep.move (Mv.same s2) _ _ r2) n (RepL.move (Mv.same s12) _ _ r1))⟩
          exact q3 O σ _ R3 ((Mv.same s12).trans mv)
        · exact q3.elim
      | _ => exact q3.elim
    | dic t kvs =>
      refine ⟨A, H0, O, en, R, ((Out.bind q1).se R).good fun d q2 v H1 s1 r2 => ⟨.ref a, p2, A, H0, O, en, R.to s1, ((Out.bind q2).se (R.to s1)).good fun k q3 w H2 s2 r3 => ?_⟩⟩
      split at q3
      · rename_i hk
        rw [Bool.and_eq_true, decide_eq_true_eq] at hk
        have s12 := s1.trans s2
        have R2 := R.to s12
        obtain ⟨a', p1', _, p3'⟩ := R2.owns i _ hl hi
        rw [p1] at p1'
        cases p1'
        refine .inr ⟨AO A O, t, kvs, k, d, a, rfl, .inr ⟨i, p1⟩, p3', r3, Rep.move (Mv.same s2) _ _ r2, hk.1, hk.2, fun ob g => ?_⟩
        obtain ⟨u0, hu0, hs0, _⟩ := OwnAt.obj (d := .dic t kvs) p3'
        have mv := own_mv R2 p1 (o := ob) hu0 hs0
        have R3 := R2.write (o := ob) (d' := .dic t (putD k d kvs)) hi hl p1 g
        exact q3 O σ _ R3 ((Mv.same s12).trans mv)
      · exact q3.elim
    | _ => exact q1.elim
/-- self.f = e -/
theorem s_setF {i : Nat} {cs : List String} {f : String} (F : ∀ c ∈ cs, Cls X.K (ca X.K c) ∧ NoAttr X.K (ca X.K c) (Str.ofString f)) (h : PS X st (sFld X.K (tVar i) (tE X.K W ow m) (Str.ofString f))) (hi : ow i = true) : PS X st (tS fr X.K W ow (setF i cs f m)) :=
  PS.of h fun D σ H ⟨A, H0, O, en, R, q⟩ => by
    obtain ⟨l, hl, q1⟩ := var_ok q
    obtain ⟨a, p1, p2, p3⟩ := R.owns i l hl hi
    cases l with
    | ins c fs =>
      obtain ⟨dx, fvs, e1, r1⟩ := p3
      simp only at q1
      split at q1
      · rename_i hz
        obtain ⟨f1, f2⟩ := F c (by simpa using hz.1)
        refine ⟨A, H0, O, en, R, ((Out.bind q1).se R).good fun d q2 v H1 s1 r2 => ⟨.ref a, p2, a, _, dx, fvs, rfl, s1 _ _ e1, f1, f2, by rw [← r1.length]; exact hz.2, ?_⟩⟩
        have R1 := R.to s1
        have mv := own_mv R1 p1 (o := .ins (ca X.K c) dx (L2.putF (Str.ofString f) v fvs)) (s1 _ _ e1) fun z => z
        have R2 := R1.write (o := .ins (ca X.K c) dx (L2.putF (Str.ofString f) v fvs)) (d' := .ins c (putF f d fs)) hi hl p1 ⟨dx, _, upd_same, RepF.move mv _ _ (RepF.put r2 (RepF.move (Mv.same s1) _ _ r1))⟩
        exact q2 O σ _ R2 ((Mv.same s1).trans mv)
      · exact q1.elim
    | _ => exact q1.elim
end
end Py
/-! Calls, defs, classes. -/
namespace Py
open PySem L2
theorem takes0N {X : Cx} : L2N.Takes X (fun _ _ _ _ => False) := fun u s' x => by
  obtain ⟨a, B, sI, pins, σ, H, cls, d, x1, x2, x3, x4, x5, x6, x7, x8, z⟩ := x
  exact z.elim
theorem passLN {X : Cx} : Passes (L2N.CX X.prog X.w) X E0 := fun pins σ H s e s' I h => by
  obtain ⟨a, B, H', cls, d, x1, x2, x3, x4, x5, x6, x7, z⟩ := h
  exact z.elim
/-- where one stands: k calls deep there is room -/
structure Ctx (X : Cx) (W : WX) (k : Nat) : Prop where
  calm : X.calm = true
  tk : L2N.Takes X W
  po : PassesOwn (model X.prog X.w) X.A X.env X.xe
  hr : Room k X.A
  nd : X.N.Nodup
theorem Ctx.blk {X : Cx} {W : WX} {k : Nat} (c : Ctx X W k) (s : Shared) (H : Hp) (scope : Scope) (cenv : PySem.Env) (fp : List Addr) : Ctx (X.blk s H scope cenv fp) W0 k := ⟨c.calm, takes0N, PassesOwn.never, c.hr, c.nd⟩
/-- a def that computes m of its arguments -/
def spM (K : Frag) (p : Nat) (m : List D → Res D) : Sp := fun vs H Q E => ∃ A ds, RepL K A H ds vs ∧ ds.length = p ∧ (∀ a, A a → H a ≠ none) ∧
  Out (m ds) (fun d => ∀ v H', Same H H' → Rep K A H' d v → Q v H') (fun c fs => ∀ da H' fvs, Same H H' → H' da = some (.xd fvs) → RepF K A H' fs fvs → E (.ref (ca K c)) (some da) H')
/-- an __init__ that makes m of the arguments behind self -/
def spI (K : Frag) (p : Nat) (cls : String) (m : List D → Res D) : Sp := fun vs H Q E => ∃ A x dx H1 ds ws, vs = .ref x :: ws ∧ H = upd (upd H1 dx (.own x)) x (.ins (ca K cls) dx []) ∧ H1 x = none ∧ H1 dx = none ∧ dx ≠ x ∧ RepL K A H1 ds ws ∧ ds.length + 1 = p ∧ (∀ a, A a → H1 a ≠ none) ∧
  Out (m ds) (fun d => ∀ H', Same H1 H' → Rep K A H' d (.ref x) → Q .non H') (fun c fs => ∀ da H' fvs, Same H1 H' → H' da = some (.xd fvs) → RepF K A H' fs fvs → E (.ref (ca K c)) (some da) H')
section
variable {X : Cx} {W : WX} {ow : Ow} {a b c e : Expr} {es : List Expr} {m ma mb mc : EM} {am : AM} {pos p : Pos} {k j n : Nat} {f C : Addr} {fd : FuncData} {ps : List Str} {x : Str} {fm : List D → Res D}
theorem call_of {E : St → XK} (hE : ∀ σ cls d H, W cls d σ H → E σ cls d H) {σ : L2.St} {H : Hp} {Q : VK} (h : tE X.K W ow (call fm am) σ H Q) (hl : ∀ ds d, fm ds = .ok d → ds.length = n) (hx : ∀ ds c fs, fm ds = .exc c fs → ds.length = n) : tCallSD (spM X.K n fm) [] E (aE X.K W ow am) σ H Q := by
  obtain ⟨A, H0, O, en, R, q⟩ := h
  refine ⟨A, H0, O, en, R, (Out.bind q).good fun ds q1 vs H1 s1 r1 => ?_⟩
  dsimp only
  rw [List.append_nil]
  refine ⟨AO A O, ds, paired_rep r1, ?_, (R.to s1).there, q1.imp (fun d _ k v H2 s2 r2 => k v H2 (s1.trans s2) r2) fun c fs z da H2 fvs s2 q2 r2 => hE _ _ _ _ (z da H2 fvs (s1.trans s2) q2 r2)⟩
  cases e : fm ds with
  | ok d => exact hl ds d e
  | exc c fs => exact hx ds c fs e
  | stuck =>
    rw [e] at q1
    exact q1.elim
/-- what a def asks of its number of arguments -/
structure Ar (n : Nat) (fm : List D → Res D) : Prop where
  ok : ∀ ds d, fm ds = .ok d → ds.length = n
  ex : ∀ ds c fs, fm ds = .exc c fs → ds.length = n
theorem ar_fn {p n : Nat} {body : SM} : Ar p (fn p n body) := by
  refine ⟨fun ds d h => ?_, fun ds c fs h => ?_⟩ <;> (unfold fn at h; split at h; (· assumption); (· cases h))
theorem x_call (T : Ctx X W j) (F : FnOk X.prog X.w X.K X.mg X.base (L2N.CX X.prog X.w) k f fd ps (spM X.K n fm)) (hn : Ar n fm) (hk : k ≤ j) (hg : Gl X x) (hm : X.mg x = some (.ref f)) (hkp : PySem.W.keepIn X.K (.ref f) = true) (hb : Binds X.K fd ps [])
    (ha : PA X (e :: es) (aE X.K W ow am)) (hdb : (x == ("__debug__" : Str)) = false := by decide) (he : starEach (e :: es) X.env = (false, eval e X.env) :: starEach es X.env := by rfl) (hpl : (backTo pos (starEach es X.env)).any (·.1) = false := by rfl) :
    PE X (.Call (.Name x p) (e :: es) [] pos) (tE X.K W ow (call fm am)) :=
  PE.of (pe_callSD (E := WE W) F (T.hr.mono hk) hg hm hkp hb .nil (fun σ => L2N.passAt T.tk σ) ha hdb he hpl) fun _ _ _ h => call_of (fun _ _ _ _ z => z) h hn.ok hn.ex
/-- C(..) of an own class: what it may let out, at the slots that stand now -/
def tMk (C : Addr) (sp : Sp) (E : St → XK) (t : TA) : TE := fun σ H Q => t σ H fun vs H1 => ∀ y dy, H1 y = none → H1 dy = none → dy ≠ y → sp (.ref y :: vs) (upd (upd H1 dy (.own y)) y (.ins C dy [])) (fun v H2 => v = .non ∧ Q (.ref y) H2) (E σ)
theorem mk_run {CX : CXT} {E : XK} {sp : Sp} {pins : List (Addr × Obj)} {σ : St} {H : Hp} {s : Shared} {Q : VK} {us : List Value} {vs : List V} (M : Mk X.K C f) (F : FnOk X.prog X.w X.K X.mg X.base CX k f fd ps sp) (hr : Room (k + 1) X.A) (hb : Binds X.K fd ps [])
    (hx : PassesAt CX X σ E) (I : Inv X pins σ H s) (rv : Vals vs us)
    (h : ∀ y dy, H y = none → H dy = none → dy ≠ y → sp (.ref y :: vs) (upd (upd H dy (.own y)) y (.ins C dy [])) (fun v H2 => v = .non ∧ Q (.ref y) H2) E) : wpAny (model X.prog X.w) X.A (PySem.call (.ref C) us) (EP X pins σ Q) X.xe s := by
  have e0 := I.hok.fresh (Nat.le_refl s.heap.objs.size)
  have e1 := I.hok.fresh (Nat.le_succ s.heap.objs.size)
  have q := h _ _ e1 e0 (Nat.ne_of_lt (Nat.lt_succ_self _))
  have J := Inv.made (C := C) I
  have rw' : Vals (V.ref (s.heap.objs.size + 1) :: vs) (Value.ref (s.heap.objs.size + 1) :: us) := .cons rfl rv
  have hl : (Value.ref (s.heap.objs.size + 1) :: us).length = ps.length := rw'.length.symm.trans (F.len _ _ _ _ q)
  have b := hb _ (Value.ref (s.heap.objs.size + 1) :: us) J.kIn (by rw [List.append_nil]; exact hl)
  rw [List.append_nil] at b
  refine wpAny_call (make_map (f := f) I.kIn M.makes M.init (beq_iff_eq.mp M.fn) (codeAny_mono (F.run _ X.stack _ _ ⟨Value.ref (s.heap.objs.size + 1) :: us, []⟩ _ _ _ E (hr.make C us []) (J.env0.make C us []) b rw' q) ?_))
  rintro (u | fl) s' z
  · exact hx pins _ _ u s' J z
  · cases fl with
    | ret u =>
      obtain ⟨v, H', I3, r3, rfl, q3⟩ := J.after z
      exact ⟨r3, V.ref (s.heap.objs.size + 1), H', I3, rfl, q3⟩
    | next => exact False.elim z
    | brk => exact False.elim z
    | cont => exact False.elim z
theorem mk_pe {CX : CXT} {E : St → XK} {sp : Sp} {t : TA} (M : Mk X.K C f) (F : FnOk X.prog X.w X.K X.mg X.base CX k f fd ps sp) (hr : Room (k + 1) X.A) (hg : Gl X x) (hm : X.mg x = some (.ref C)) (hb : Binds X.K fd ps []) (hx : ∀ σ, PassesAt CX X σ (E σ))
    (ha : PA X (e :: es) t) (hdb : (x == ("__debug__" : Str)) = false := by decide) (he : starEach (e :: es) X.env = (false, eval e X.env) :: starEach es X.env := by rfl) (hpl : (backTo pos (starEach es X.env)).any (·.1) = false := by rfl) :
    PE X (.Call (.Name x p) (e :: es) [] pos) (tMk C sp E t) :=
  ⟨fun pins s σ H Q I h => wpAny_Call_Name_kw (ld_glob I hg hm (PySem.W.callWith_K (h₀ := X.base) I.ok.mod.kin M.kp (thn (ha.run pos pins s σ H _ I h) fun us s1 ⟨vs, H1, I1, r, q⟩ => ⟨I1.kIn, mk_run M F hr hb (hx σ) I1 r q⟩) he hpl) hdb)⟩
theorem x_make {cls : String} (T : Ctx X W j) (M : Mk X.K (ca X.K cls) f) (F : FnOk X.prog X.w X.K X.mg X.base (L2N.CX X.prog X.w) k f fd ps (spI X.K n cls fm)) (hn : ∀ ds d, (fm ds = .ok d → ds.length + 1 = n)) (hx : ∀ ds c fs, fm ds = .exc c fs → ds.length + 1 = n)
    (hk : k + 1 ≤ j) (hg : Gl X x) (hm : X.mg x = some (.ref (ca X.K cls))) (hb : Binds X.K fd ps [])
    (ha : PA X (e :: es) (aE X.K W ow am)) (hdb : (x == ("__debug__" : Str)) = false := by decide) (he : starEach (e :: es) X.env = (false, eval e X.env) :: starEach es X.env := by rfl) (hpl : (backTo pos (starEach es X.env)).any (·.1) = false := by rfl) :
    PE X (.Call (.Name x p) (e :: es) [] pos) (tE X.K W ow (call fm am)) :=
  PE.of (mk_pe (E := WE W) M F (T.hr.mono hk) hg hm hb (fun σ => L2N.passAt T.tk σ) ha hdb he hpl) fun σ H Q ⟨A, H0, O, en, R, q⟩ => by
    refine ⟨A, H0, O, en, R, (Out.bind q).good fun ds q1 vs H1 s1 r1 y dx hy hdx hne => ?_⟩
    have sm : Same H1 (upd (upd H1 dx (.own y)) y (.ins (ca X.K cls) dx [])) := fun b o e => by
      rw [upd_ne (ne_of_none e hy), upd_ne (ne_of_none e hdx)]
      exact e
    refine ⟨AO A O, y, dx, H1, ds, vs, rfl, rfl, hy, hdx, hne, paired_rep r1, ?_, (R.to s1).there, ?_⟩
    · cases e : fm ds with
      | ok d => exact hn ds d e
      | exc c fs => exact hx ds c fs e
      | stuck =>
        rw [e] at q1
        exact q1.elim
    · exact q1.imp (fun d _ k H2 s2 r2 => ⟨rfl, k _ H2 (s1.trans s2) r2⟩) fun c fs z da H2 fvs s2 q2 r2 => z da H2 fvs (s1.trans s2) q2 r2
end
/-! ### defs -/
section
variable {P : Program} {w : World} {K : Frag} {mg : Str → Option Value} {base : Heap} {name qual : Str} {params : Arguments} {body : List Stmt} {scope : Scope} {dvs : List V} {kws : List (Str × V)} {f : Addr} {fd : FuncData} {N ps : List Str} {k : Nat} {ow oN oB : Ow} {m : SM}
theorem start_get {N : List Str} {vs : List V} {i : Nat} {v : V} (h : vs[i]? = some v) : (L2.start N vs)[i]? = some (some v) := by
  unfold L2.start
  have hi := (List.getElem?_eq_some_iff.mp h).1
  rw [List.getElem?_append_left (by simpa using hi), List.getElem?_map, h]
  rfl
abbrev WD (E : XK) : WX := fun c d _ H => E c d H
/-- a def's start -/
theorem spM_start {E : XK} {vs : List V} {H : Hp} {Q : VK} (hpre : ps.length ≤ N.length) (hx : ow.x = none) (hp : ∀ i, i < ps.length → ow i = false) (h : spM K ps.length (fn ps.length N.length m) vs H Q E) :
    tS3 false K (WD E) ow oN oB m { nx := fun _ H' => Q .non H', rt := Q } (L2.start N vs) H := by
  obtain ⟨AV, ds, r, hl, ha, q⟩ := h
  refine ⟨AV, ⟨H, none⟩, fun _ => none, ds.map some ++ List.replicate (N.length - ps.length) none, ?_, ?_⟩
  · have hlv := r.length
    have hN : ps.length ≤ N.length := hpre
    refine ⟨?_, ha, Same.refl H, fun i d h1 h2 => ?_, fun i d h1 h2 => ?_, fun i a h => (nomatch h), fun i j a h => (nomatch h), fun a h => (nomatch h), XFact.none hx⟩
    · unfold L2.start
      simp only [List.length_append, List.length_map, List.length_replicate]
      omega
    · by_cases hi : i < ds.length
      · rw [List.getElem?_append_left (by simpa using hi), List.getElem?_map, List.getElem?_eq_getElem hi] at h1
        simp only [Option.map_some, Option.some.injEq] at h1
        subst h1
        obtain ⟨v, hv, rv⟩ := r.get (List.getElem?_eq_getElem hi)
        exact ⟨v, start_get hv, Rep.move (Mv.less fun b hb => hb.elim id fun ⟨_, z⟩ => nomatch z) _ _ rv⟩
      · rw [List.getElem?_append_right (by simpa using hi)] at h1
        rw [List.getElem?_replicate] at h1
        split at h1 <;> cases h1
    · by_cases hi : i < ds.length
      · rw [hp i (by omega)] at h2
        cases h2
      · rw [List.getElem?_append_right (by simpa using hi)] at h1
        rw [List.getElem?_replicate] at h1
        split at h1 <;> cases h1
  · unfold fn at q
    rw [if_pos hl] at q
    cases e : m (ds.map some ++ List.replicate (N.length - ps.length) none) with
    | ok fl =>
      rw [e] at q
      cases fl with
      | next e' => exact fun O' σ' H' R' _ => q .non H' R'.same rfl
      | ret d => exact fun v H' s' r' => q v H' s' r'
      | brk e' => exact q.elim
      | cnt e' => exact q.elim
    | exc c fs =>
      rw [e] at q
      exact fun σ' da H' fvs s' q' r' => q da H' fvs s' q' r'
    | stuck =>
      rw [e] at q
      exact q.elim
theorem pre_le {N ps : List Str} (h : N.take ps.length = ps) : ps.length ≤ N.length := by
  have h2 := congrArg List.length h
  rw [List.length_take] at h2
  omega
/-- a def whose body computes m -/
theorem fn_ok (F : FunD K name qual params body scope dvs kws f fd) (S : FnScope N ps scope) (hx : ow.x = none) (hp : ∀ i, i < ps.length → ow i = false)
    (hb : ∀ (cdv : Value) (A : Around) (outer : List PySem.Env) (s : Shared) (H : Hp) (E : XK), Ctx (cxOf (L2N.CX P w) P w K mg base N qual scope f cdv A outer s H E) (WD E) k →
      PSs (cxOf (L2N.CX P w) P w K mg base N qual scope f cdv A outer s H E) body (tS3 false K (WD E) ow oN oB m)) :
    FnOk P w K mg base (L2N.CX P w) (k + 1) f fd ps (spM K ps.length (fn ps.length N.length m)) := by
  refine F.ok S (fun vs H Q E ⟨A, ds, r, h, _⟩ => r.length.symm.trans h) (fun cdv A outer s H vs Q E hr h => ?_)
  exact ⟨tS3 false K (WD E) ow oN oB m, hb cdv A outer s H E ⟨rfl, L2N.takes_of rfl rfl rfl rfl, passes_of rfl, hr, S.nd⟩, spM_start (pre_le S.pre) hx hp h⟩
/-- an __init__ whose body fills self, which stands in slot 0 -/
theorem init_ok {cls : String} (F : FunD K name qual params body scope dvs kws f fd) (S : FnScope N ps scope) (hox : ow.x = none) (h0 : ow 0 = true) (hp0 : 0 < ps.length) (hp : ∀ i, 0 < i → i < ps.length → ow i = false)
    (hb : ∀ (cdv : Value) (A : Around) (outer : List PySem.Env) (s : Shared) (H : Hp) (E : XK), Ctx (cxOf (L2N.CX P w) P w K mg base N qual scope f cdv A outer s H E) (WD E) k →
      PSs (cxOf (L2N.CX P w) P w K mg base N qual scope f cdv A outer s H E) body (tS false K (WD E) ow m)) :
    FnOk P w K mg base (L2N.CX P w) (k + 1) f fd ps (spI K ps.length cls (made ps.length N.length cls m)) := by
  refine F.ok S (fun vs H Q E ⟨A, x, dx, H1, ds, ws, h1, _, _, _, _, r, h, _⟩ => by rw [h1, List.length_cons, ← r.length]; exact h) (fun cdv A outer s H vs Q E hr h => ?_)
  obtain ⟨AV, x, dx, H1, ds, ws, rfl, hH, hx, hdx, hne, r, hl, ha, q⟩ := h
  have sd : Same H1 (upd H1 dx (.own x)) := fun b o e => by
    rw [upd_ne (ne_of_none e hdx)]
    exact e
  have hx2 : upd H1 dx (.own x) x = none := by
    rw [upd_ne fun z => hne z.symm]
    exact hx
  have s2 : Same (upd H1 dx (.own x)) H := by
    rw [hH]
    exact new_same hx2
  have s1 : Same H1 H := sd.trans s2
  refine ⟨tS false K (WD E) ow m, hb cdv A outer s H E ⟨rfl, L2N.takes_of rfl rfl rfl rfl, passes_of rfl, hr, S.nd⟩, AV, ⟨upd H1 dx (.own x), some x⟩, fun i => if i = 0 then some x else none, (some (.ins cls []) :: ds.map some) ++ List.replicate (N.length - ps.length) none, ?_, ?_⟩
  · have hlv := r.length
    have hN : ps.length ≤ N.length := by
      have := S.pre
      have h2 := congrArg List.length this
      rw [List.length_take] at h2
      omega
    have nx : ∀ i a, (if i = 0 then some x else none) = some a → i = 0 ∧ a = x := fun i a h => by
      by_cases hi : i = 0
      · rw [if_pos hi] at h
        cases h
        exact ⟨hi, rfl⟩
      · rw [if_neg hi] at h
        cases h
    have mv : Mv AV H1 (AO AV fun i => if i = 0 then some x else none) H := ⟨fun b hb => by
      rcases hb with hb | ⟨i, hb⟩
      · exact .inl hb
      · rw [(nx i b hb).2]
        exact .inr hx, fun b o e _ => s1 b o e⟩
    refine ⟨?_, fun b hb => ne_none s1 (ha b hb), s2, fun i d h1 h2 => ?_, fun i d h1 h2 => ?_, fun i a h => ?_, fun i j a h h' => (nx i a h).1.trans (nx j a h').1.symm, fun a h => ?_, XFact.none hox⟩
    · unfold L2.start
      simp only [List.length_append, List.length_map, List.length_replicate, List.length_cons]
      omega
    · cases i with
      | zero =>
        rw [h0] at h2
        cases h2
      | succ i =>
        by_cases hi : i < ds.length
        · rw [List.getElem?_append_left (by simpa using hi), List.getElem?_cons_succ, List.getElem?_map, List.getElem?_eq_getElem hi] at h1
          simp only [Option.map_some, Option.some.injEq] at h1
          subst h1
          obtain ⟨v, hv, rv⟩ := r.get (List.getElem?_eq_getElem hi)
          exact ⟨v, start_get (by simpa using hv), Rep.move mv _ _ rv⟩
        · rw [List.getElem?_append_right (by simpa using hi)] at h1
          rw [List.getElem?_replicate] at h1
          split at h1 <;> cases h1
    · cases i with
      | zero =>
        simp only [List.cons_append, List.getElem?_cons_zero, Option.some.injEq] at h1
        subst h1
        refine ⟨x, rfl, start_get rfl, dx, [], ?_, by simp [RepF]⟩
        rw [hH]
        exact upd_same
      | succ i =>
        by_cases hi : i < ds.length
        · rw [hp (i + 1) (by omega) (by omega)] at h2
          cases h2
        · rw [List.getElem?_append_right (by simpa using hi)] at h1
          rw [List.getElem?_replicate] at h1
          split at h1 <;> cases h1
    · obtain ⟨_, rfl⟩ := nx i a h
      refine ⟨hx2, ?_, fun z => ha a z hx⟩
      rw [hH, upd_same]
      exact fun z => nomatch z
    · cases h
      rfl
  · unfold made at q
    rw [if_pos hl] at q
    cases e : m ((some (.ins cls []) :: ds.map some) ++ List.replicate (N.length - ps.length) none) with
    | ok fl =>
      rw [e] at q
      cases fl with
      | next e' =>
        refine fun O' σ' H' R' _ => ?_
        cases e' with
        | nil => exact q.elim
        | cons d0 r0 =>
          cases d0 with
          | none => exact q.elim
          | some d1 =>
            cases d1 with
            | ins c fs =>
              have q2 : ∀ H', Same H1 H' → Rep K AV H' (.ins c fs) (.ref x) → Q .non H' := q
              refine q2 H' (sd.trans R'.same) ?_
              have hpin : O' 0 = some x := R'.pin x rfl
              obtain ⟨a, p1, p2, dx', fvs, p3, p4⟩ := R'.owns 0 (.ins c fs) rfl h0
              rw [hpin] at p1
              cases p1
              simp only [Rep]
              exact ⟨x, dx', fvs, rfl, fun z => ha x z hx, p3, RepF.move (Mv.less fun b => .inl) _ _ p4⟩
            | _ => exact q.elim
      | ret d => exact q.elim
      | brk e' => exact q.elim
      | cnt e' => exact q.elim
    | exc c fs =>
      rw [e] at q
      exact fun σ' da H' fvs s' q' r' => q da H' fvs (sd.trans s') q' r'
    | stuck =>
      rw [e] at q
      exact q.elim
end
end Py
/-! enumerate over tuples and lists. -/
namespace PySem
open Builtin
theorem py_en_new {v : Value} {o : Obj} {H : Heap → Prop} (B : Begins v o H) :
    Meets (Builtin.«enumerate.__new__» ⟨[.type "enumerate", v], []⟩) (fun _ R s => H s.heap ∧
      R (.ok (.ret (.ref (s.heap.push o).objs.size))) { s with heap := (s.heap.push o).push { cls := .type "enumerate", data := .fields #[.none, .bool false, .ref s.heap.objs.size, rawInt 0, .none, .none] } }) :=
  .of_wp fun prog w A R s h => by
    obtain ⟨hp, g, d, tk, os⟩ := s
    obtain ⟨h1, h⟩ := h
    have hsub := sub_enumerate
    have iter1 : ∀ {A' : Around} {E : Value → Shared → Prop} {Q : Value → Shared → Prop}, Q (.ref hp.objs.size) ⟨hp.push o, g, d, tk, os⟩ → wpAny (model prog w) A' (pyIter v) Q E ⟨hp, g, d, tk, os⟩ :=
      fun q => B.iter prog w _ _ ⟨hp, g, d, tk, os⟩ _ h1 q
    wp_walk using iter1
    refine wpAny_stack_any fun st => wpAny_pure ?_
    split
    · rename_i c _ _ _ _ _
      cases (c == Value.type "enumerate")
      · wp_walk using iter1
        exact ⟨_, rfl, h⟩
      · wp_walk using iter1
        exact ⟨_, rfl, h⟩
    · wp_walk using iter1
      exact ⟨_, rfl, h⟩
theorem py_en_call {prog : Program} {w : World} {A : Around} {E : Value → Shared → Prop} {s : Shared} {v : Value} {o : Obj} {H : Heap → Prop} {Q : Value → Shared → Prop} (B : Begins v o H) (h1 : H s.heap)
    (h : ∀ h', IsEnum h' (s.heap.objs.size + 1) s.heap.objs.size 0 .none → h'.get? s.heap.objs.size = some o → h'.objs.size = s.heap.objs.size + 2 →
      (∀ b o, s.heap.get? b = some o → h'.get? b = some o) → Q (.ref (s.heap.objs.size + 1)) { s with heap := h' }) :
    wpAny (model prog w) A (call (.type "enumerate") [v]) Q E s := by
  refine callType_new F.called_enumerate (by decide) (F.typeCall_enumerate_1 _) (F.newCall_enumerate_1 _) (fun obj => F.args_object_init_2 obj _) F.entry_enumerate_new (py_en_new B) ⟨h1, ?_⟩
  have hz : (s.heap.push o).objs.size = s.heap.objs.size + 1 := Heap.size_push ..
  show _ ∧ _
  rw [hz]
  have he : IsEnum ((s.heap.push o).push { cls := .type "enumerate", data := .fields #[.none, .bool false, .ref s.heap.objs.size, rawInt 0, .none, .none] }) (s.heap.objs.size + 1) s.heap.objs.size 0 .none := by
    have this := Heap.get?_push_size (s.heap.push o) (o := { cls := .type "enumerate", data := .fields #[.none, .bool false, .ref s.heap.objs.size, rawInt 0, .none, .none] }) rfl
    rw [hz] at this
    exact this
  exact ⟨⟨_, he, rfl⟩, h _ he (Heap.get?_push_of_some _ (Heap.get?_push_size _ B.free)) (by rw [Heap.size_push, hz]) fun b o x => Heap.get?_push_of_some _ (Heap.get?_push_of_some _ x)⟩
end PySem
namespace Py
open PySem L2
/-- enumerate over the tuple at a -/
def Iet (K : Frag) (a : Addr) : It :=
  ⟨fun i H => ∃ (xs : List V) (x : V), SqT K H a xs ∧ xs[i]? = some x, fun i H v H' => ∃ T x, v = .ref T ∧ H T = none ∧ H' = upd H T (.tup [.int (i : Nat), x]) ∧ ∀ xs, SqT K H a xs → xs[i]? = some x, fun i H => ∃ xs : List V, SqT K H a xs ∧ i = xs.length⟩
theorem turn_enumT {P : Program} {w : World} {K : Frag} {elts : List Expr} {kk : Nat} {tpos : Pos} (a e it : Addr) :
    Turn P w K (.Tuple elts kk tpos) (Iet K a) [e, it] e (fun i h => (∃ old, IsEnum h e it ((i : Nat) : Int) old) ∧ h.IsTupleIter it a i ∧ e ≠ it ∧ a ≠ it ∧ a ≠ e) where
  mem := by simp
  obj := fun i h st b hb => by
    obtain ⟨⟨old, he⟩, ⟨o, ho, hc, hd⟩, _⟩ := st
    rcases (by simpa using hb : b = e ∨ b = it) with z | z
    · subst z
      exact ⟨_, he, fun v q => nomatch q⟩
    · subst z
      exact ⟨o, ho, fun v q => by rw [hd] at q; cases q⟩
  keep := fun i h h' st k => by
    obtain ⟨⟨old, he⟩, hi, n1, n2, n3⟩ := st
    exact ⟨⟨old, k e (by simp) _ he⟩, hi.at fun o q => k it (by simp) o q, n1, n2, n3⟩
  item := by
    intro X hP hw hK hc i pins s σ H E I hf st hg
    subst hP hw hK
    obtain ⟨⟨old, he⟩, hit, n1, n2, n3⟩ := st
    obtain ⟨xs, x, hq, hx⟩ := hg
    obtain ⟨its, rv, tp, hz⟩ := I.tuple hq
    obtain ⟨u, hu, ru⟩ := rv.get hx
    have hel : e < s.heap.objs.size := Heap.lt_size he
    have hil : it < s.heap.objs.size := by
      obtain ⟨_, q, _⟩ := hit
      exact Heap.lt_size q
    have hi : i < its.toArray.size := by
      have := (List.getElem?_eq_some_iff.mp hu).1
      simpa using this
    have htp : s.heap.IsTuple a its.toArray := tp
    refine wpAny_pyNext_enum_itemD (Draws.tuple (prog := X.prog) (w := X.w) (A := X.A.in1) (I.ok.hd hc) it a n2 its.toArray) he (show _ ∧ _ from ⟨hit, htp⟩) hi n1 (by simp [n1, n3.symm]) fun x' h' tk hP' ho hst' hT hsz hk => ?_
    have hxu : x' = u := by
      have q1 : its[i]? = some x' := by simpa using hP'
      rw [hu] at q1
      exact (Option.some.inj q1).symm
    subst hxu
    refine ⟨_, rfl, wpAny_letOwnedTupleGo_enum (s := { s with heap := h', toks := tk + 1 }) ho fun h'' he' sb => ?_⟩
    have hT2 : h''.get? s.heap.objs.size = some { cls := .type "tuple", data := .seq #[.int i tk, x'] } := (sb.2 _ (Nat.ne_of_gt hel)).trans hT
    have new : ObjOk X.prog X.w (upd H s.heap.objs.size (.tup [.int (i : Nat), x])) h'' s.heap.objs.size (.tup [.int (i : Nat), x]) :=
      ⟨by show 2 ≤ sizeLine; decide, [.int i tk, x'], .cons ⟨_, rfl⟩ (.cons ru .nil), ⟨_, hT2, rfl, _, rfl⟩⟩
    have I1 : Inv X pins σ (upd H s.heap.objs.size (.tup [.int (i : Nat), x])) { s with heap := h'', toks := tk + 1 } :=
      I.turnedNew (ch := [e, it]) (fun b ob hb q => (sb.2 b fun z => hb (by simp [z])).trans (hk b ob (fun z => hb (by simp [z])) (fun z => hb (by simp [z])) q)) hf (Nat.le_refl _) new
    refine ⟨.ref s.heap.objs.size, _, I1, rfl, ⟨_, x, rfl, I.hok.fresh (Nat.le_refl _), rfl, fun ys hy => by rw [I.tuple_inj hy hq]; exact hx⟩, ⟨⟨x', ?_⟩, hst'.1.at fun o q => (sb.2 it n1.symm).trans q, n1, n2, n3⟩, fun b hb => ?_⟩
    · have e1 : ((i + 1 : Nat) : Int) = (i : Int) + 1 := by omega
      rw [e1]
      exact he'
    · have hb' : b < s.heap.objs.size := by
        rcases (by simpa using hb : b = e ∨ b = it) with z | z
        · subst z
          exact hel
        · subst z
          exact hil
      rw [upd_ne (Nat.ne_of_lt hb')]
      exact (hf b hb).1
  done := by
    intro X hP hw hK hc i pins s σ H E I hf st hg
    subst hP hw hK
    obtain ⟨⟨old, he⟩, hit, n1, n2, n3⟩ := st
    obtain ⟨xs, hq, hx⟩ := hg
    obtain ⟨its, rv, tp, hz⟩ := I.tuple hq
    obtain ⟨f0, f1, f2, f3, f4, f5⟩ := hf it (by simp)
    have hl := rv.length
    have htp : s.heap.IsTuple a its.toArray := tp
    have hi2 : i = its.toArray.size := by
      rw [List.size_toArray]
      omega
    subst hi2
    exact wpAny_pyNext_enum_endD (Draws.tuple (prog := X.prog) (w := X.w) (A := X.A.in1) (I.ok.hd hc) it a n2 its.toArray) he (show _ ∧ _ from ⟨hit, htp⟩) fun h' eb => ⟨rfl, I.turned (t' := s.toks) (fun b o hb q => eb b o hb q) f0 f1 f3 f4 f5⟩
  self := fun A i s Q E st h => by
    obtain ⟨⟨_, he⟩, _⟩ := st
    exact wpAny_pyIter_enum he h
section
variable {X : Cx} {W : WX} {ow : Ow} {a b c e : Expr} {es elts : List Expr} {m ma mb mc : EM} {pos p tpos : Pos} {kk : Nat}
def iEnumE (K : Frag) (ta : TA) : TI := fun σ H R => ta σ H fun vs H1 => ∃ a, vs = [.ref a] ∧ ((∃ xs, SqL K H1 a xs ∧ R (Ite K a) H1) ∨ ∃ xs, SqT K H1 a xs ∧ R (Iet K a) H1)
theorem pi_enumE {ta : TA} (hg : Gl X "enumerate") (hm : X.mg "enumerate" = none) (ha : PA X [e] ta) (hs : starEach [e] X.env = [(false, eval e X.env)] := by rfl) : PI X (.Tuple elts kk tpos) (.Call (.Name "enumerate" p) [e] [] pos) (iEnumE X.K ta) := by
  refine ⟨fun pins s σ H R I h => ?_⟩
  refine PyProof.Rows.Call_ (ld_blt I hg hm PyProof.Rows.boot_enumerate (PyProof.Rows.callWith_type1 (thn (ha.run pos pins s σ H _ I h) fun us s1 ⟨vs, H1, I1, r1, q1⟩ => ?_) hs rfl))
  obtain ⟨a, ex, q⟩ := q1
  subst ex
  obtain ⟨u, rfl, ru⟩ := vals1 r1
  cases ru
  have fin : ∀ b ∈ [s1.heap.objs.size + 1, s1.heap.objs.size], FpOk X pins H1 b := fun b hb => by
    have hle : s1.heap.objs.size ≤ b := by
      rcases (by simpa using hb : b = s1.heap.objs.size + 1 ∨ b = s1.heap.objs.size) with z | z
      · rw [z]
        exact Nat.le_add_right _ _
      · rw [z]
        exact Nat.le_refl _
    exact I1.fpOk hle (I1.hok.fresh hle)
  rcases q with ⟨xs, hq, q⟩ | ⟨xs, hq, q⟩
  · obtain ⟨its, rv, tp, hz⟩ := I1.list hq
    refine py_en_call (begins_list a its.toArray) tp.isList fun h' he hit hsz hk => wpAny_pyIter_enum he ?_
    exact ⟨s1.heap.objs.size + 1, [s1.heap.objs.size + 1, s1.heap.objs.size], _, _, H1, rfl, I1.kept (t' := s1.toks) hk, turn_enum a (s1.heap.objs.size + 1) s1.heap.objs.size, ⟨⟨.none, he⟩, ⟨_, hit, rfl, rfl⟩, Nat.succ_ne_self _⟩, fin, q⟩
  · obtain ⟨its, rv, tp, hz⟩ := I1.tuple hq
    have hlt : a < s1.heap.objs.size := tp.lt
    refine py_en_call (begins_tuple a its.toArray) tp fun h' he hit hsz hk => wpAny_pyIter_enum he ?_
    exact ⟨s1.heap.objs.size + 1, [s1.heap.objs.size + 1, s1.heap.objs.size], _, _, H1, rfl, I1.kept (t' := s1.toks) hk, turn_enumT a (s1.heap.objs.size + 1) s1.heap.objs.size, ⟨⟨.none, he⟩, ⟨_, hit, rfl, rfl⟩, Nat.succ_ne_self _, Nat.ne_of_lt hlt, Nat.ne_of_lt (Nat.lt_succ_of_lt hlt)⟩, fin, q⟩
theorem enumL_get : ∀ {ds : List D} {n i : Nat} {d : D}, ds[i]? = some d → (enumL n ds)[i]? = some (.tup [.int ((n + i : Nat) : Int), d])
  | [], _, _, _, h => by simp at h
  | x :: ds, n, 0, d, h => by
    simp at h
    subst h
    rfl
  | x :: ds, n, i + 1, d, h => by
    simp only [enumL, List.getElem?_cons_succ]
    rw [enumL_get (n := n + 1) (by simpa using h)]
    rw [Nat.add_right_comm]
    rfl
theorem enumL_len : ∀ (ds : List D) (n : Nat), (enumL n ds).length = ds.length
  | [], _ => rfl
  | x :: ds, n => by
    simp only [enumL, List.length_cons]
    rw [enumL_len ds]
theorem enum_item {K : Frag} {A : AS} {H : Hp} {T : Addr} {i : Nat} {d : D} {v : V} (hn : H T = none) (r : Rep K A H d v) : Same H (upd H T (.tup [.int (i : Nat), v])) ∧ Rep K A (upd H T (.tup [.int (i : Nat), v])) (.tup [.int ((0 + i : Nat) : Int), d]) (.ref T) := by
  refine ⟨new_same hn, new_tup ?_ hn⟩
  rw [Nat.zero_add]
  simp only [RepL]
  exact ⟨_, _, rfl, rfl, v, [], rfl, r, rfl⟩
theorem itm_enumT {K : Frag} {A : AS} {H : Hp} {a : Addr} {ds : List D} {vs : List V} (q : SqT K H a vs) (r : RepL K A H ds vs) : Itm Mv K A (Iet K a) (enumL 0 ds) H := fun i A2 H2 m => by
  have q2 := SqT.move m q
  have r2 := RepL.move m ds vs r
  rw [enumL_len]
  refine ⟨fun hi => ?_, fun hi => ⟨vs, q2, by rw [← r.length]; exact hi⟩⟩
  obtain ⟨v, hv, rv⟩ := r2.get (i := i) (List.getElem?_eq_getElem hi)
  refine ⟨⟨vs, v, q2, hv⟩, fun x H3 ⟨T, x', e1, hn, e2, k⟩ => ?_⟩
  subst e1 e2
  have := k vs q2
  rw [hv] at this
  cases this
  obtain ⟨s1, r1⟩ := enum_item (i := i) hn rv
  exact ⟨s1, _, enumL_get (List.getElem?_eq_getElem hi), r1⟩
theorem itm_enumL {M : MvT} {K : Frag} {A : AS} {H : Hp} {a : Addr} {ds : List D} {vs : List V} (hM : ∀ A2 H2, M A H A2 H2 → Mv A H A2 H2 ∧ Rd H2 a (.lst vs)) (r : RepL K A H ds vs) : Itm M K A (Ite K a) (enumL 0 ds) H := fun i A2 H2 m => by
  obtain ⟨mv, rd⟩ := hM A2 H2 m
  have q2 : SqL K H2 a vs := .inl rd
  have r2 := RepL.move mv ds vs r
  rw [enumL_len]
  refine ⟨fun hi => ?_, fun hi => ⟨vs, q2, by rw [← r.length]; exact Nat.le_of_eq hi.symm⟩⟩
  obtain ⟨v, hv, rv⟩ := r2.get (i := i) (List.getElem?_eq_getElem hi)
  refine ⟨⟨vs, v, q2, hv⟩, fun x H3 ⟨T, x', e1, hn, e2, k⟩ => ?_⟩
  subst e1 e2
  have := k vs q2
  rw [hv] at this
  cases this
  obtain ⟨s1, r1⟩ := enum_item (i := i) hn rv
  exact ⟨s1, _, enumL_get (List.getElem?_eq_getElem hi), r1⟩
theorem i_enum (hg : Gl X "enumerate") (hm : X.mg "enumerate" = none) (ha : PE X a (tE X.K W ow ma)) (hs : starEach [a] X.env = [(false, eval a X.env)] := by rfl) : PI X (.Tuple elts kk tpos) (.Call (.Name "enumerate" p) [a] [] pos) (tI Mv X.K W ow (ienum ma)) :=
  PI.of (pi_enumE hg hm (pa_cons ha pa_nil hs) hs) fun σ H R' ⟨A, H0, O, en, R, q⟩ => ⟨A, H0, O, en, R, (Out.bind (Out.bind q)).good fun d q1 v H1 s1 r1 => by
    cases d with
    | lst xs =>
      obtain ⟨p, vs, rfl, n, h, r⟩ := (by simpa only [Rep] using r1 : ∃ a vs, v = .ref a ∧ ¬ AO A O a ∧ Rd H1 a (.lst vs) ∧ RepL X.K (AO A O) H1 xs vs)
      exact ⟨p, rfl, .inl ⟨vs, .inl h, q1 _ H1 s1 (itm_enumL (fun A2 H2 m => ⟨m, (Rd.move m h n).1⟩) r)⟩⟩
    | tup xs =>
      obtain ⟨p, vs, rfl, h, r⟩ := (by simpa only [Rep] using r1 : ∃ a vs, v = .ref a ∧ SqT X.K H1 a vs ∧ RepL X.K (AO A O) H1 xs vs)
      exact ⟨p, rfl, .inr ⟨vs, h, q1 _ H1 s1 (itm_enumT h r)⟩⟩
    | _ => exact q1.elim⟩
end
end Py
/-! Comprehensions as expressions, what the module's names stand for, the ends. -/
namespace Py
open PySem L2
theorem f_le {K : Frag} {W : WX} {ow : Ow} {m : EM} {σ : L2.St} {H : Hp} {Q : VK} (h : tE K W ow m σ H Q) : tF K W ow m σ H Q := by
  obtain ⟨A, H0, O, en, R, q⟩ := h
  refine ⟨A, H0, O, en, R, q.good fun d k a H' n s r => k (.ref a) H' s ?_⟩
  have na : ¬ AO A O a := fun z => R.there a z n
  have mv : Mv (fun b => AO A O b ∨ b = a) H' (AO A O) H' := Mv.less fun b x => .inl x
  exact r.rep mv na
section
variable {X : Cx} {W : WX} {ow : Ow} {a b c e : Expr} {es : List Expr} {m ma mb mc : EM} {am : AM} {pos p spos : Pos} {k j n : Nat}
variable {elt tg iter : Expr} {ifs : List Expr} {scope : Scope} {own : List (Str × Nat)} {it : IM} {g : GM} {t : TM} {me : EM} {ts : List Nat}
theorem ts_nil : PTs X [] (tT X.K W ow yes) := ⟨fun pins s σ H Q I ⟨A, H0, O, en, R, q⟩ => pts_nil.run pins s σ H Q I (q H (Same.refl H))⟩
/-- [elt for tg in iter if ..] -/
theorem f_lc (T : Ctx X W j) (hi : PI X tg iter (tI Gr X.K W ow it)) (ok : BlkOk X.N X.env.scope scope own)
    (hg : ∀ (s : Shared) (H : Hp) (C : Addr) (cl : List (Str × Addr)) (fp : List Addr), Ctx (X.blk s H scope (compEnvC scope cl C X.env) fp) W0 j → PG (X.blk s H scope (compEnvC scope cl C X.env) fp) tg (tGt X.K ow ts g))
    (ht : ∀ (s : Shared) (H : Hp) (C : Addr) (cl : List (Str × Addr)) (fp : List Addr), Ctx (X.blk s H scope (compEnvC scope cl C X.env) fp) W0 j → PTs (X.blk s H scope (compEnvC scope cl C X.env) fp) ifs (tT X.K W0 ow t))
    (he : ∀ (s : Shared) (H : Hp) (C : Addr) (cl : List (Str × Addr)) (fp : List Addr), Ctx (X.blk s H scope (compEnvC scope cl C X.env) fp) W0 j → PE (X.blk s H scope (compEnvC scope cl C X.env) fp) elt (tE X.K W0 ow me))
    (hts : ∀ i ∈ ts, i ∈ own.map (·.2)) (hx : ow.x = none := by rfl) (hs : ∀ x, foldedSetIterable iter X.env x = pure x := by intro _; rfl) :
    PE X (.ListComp elt [⟨tg, iter, ifs, 0⟩] scope pos) (tF X.K W ow (lcE it (own.map (·.2)) g t me)) :=
  PE.of (pe_lc T.calm T.nd hi ok (fun s H C cl fp => hg s H C cl fp (T.blk ..)) (fun s H C cl fp => ht s H C cl fp (T.blk ..)) (fun s H C cl fp => he s H C cl fp (T.blk ..)) hs) fun _ _ _ h => lc_of hx hts h
/-- y = [..], y a plain local -/
theorem s_lc0 {i : Nat} {y : Str} {py : Pos} (T : Ctx X W j) (hy : X.N[i]? = some y) (hyl : X.env.scope.names.lookup y = some .local)
    (hsw : swapsWith (.ListComp elt [⟨tg, iter, ifs, 0⟩] scope pos) (some (.Name y py)) spos.line X.env = pure true) (hi : PI X tg iter (tI Gr X.K W ow it)) (ok : BlkOk X.N X.env.scope scope own)
    (hg : ∀ (s : Shared) (H : Hp) (C : Addr) (cl : List (Str × Addr)) (fp : List Addr), Ctx (X.blk s H scope (compEnvC scope cl C X.env) fp) W0 j → PG (X.blk s H scope (compEnvC scope cl C X.env) fp) tg (tGt X.K ow ts g))
    (ht : ∀ (s : Shared) (H : Hp) (C : Addr) (cl : List (Str × Addr)) (fp : List Addr), Ctx (X.blk s H scope (compEnvC scope cl C X.env) fp) W0 j → PTs (X.blk s H scope (compEnvC scope cl C X.env) fp) ifs (tT X.K W0 ow t))
    (he : ∀ (s : Shared) (H : Hp) (C : Addr) (cl : List (Str × Addr)) (fp : List Addr), Ctx (X.blk s H scope (compEnvC scope cl C X.env) fp) W0 j → PE (X.blk s H scope (compEnvC scope cl C X.env) fp) elt (tE X.K W0 ow me))
    (hts : ∀ i ∈ ts, i ∈ own.map (·.2)) (hx : ow.x = none := by rfl) (hs : ∀ x, foldedSetIterable iter X.env x = pure x := by intro _; rfl) :
    PS X (.Assign [.Name y py] (.ListComp elt [⟨tg, iter, ifs, 0⟩] scope pos) spos) (tAsg (tF X.K W ow (lcE it (own.map (·.2)) g t me)) (gName i)) :=
  PS.of (ps_setLc T.calm T.nd hy hyl hsw hi ok (fun s H C cl fp => hg s H C cl fp (T.blk ..)) (fun s H C cl fp => ht s H C cl fp (T.blk ..)) (fun s H C cl fp => he s H C cl fp (T.blk ..)) hs) fun _ _ _ h => lc_of hx hts h
theorem s_f {st : Stmt} {i : Nat} (h : PS X st (tAsg (tF X.K W ow m) (gName i))) : PS X st (tAsg (tE X.K W ow m) (gName i)) := PS.of h fun _ _ _ q => f_le q
/-! ### is True -/
end
/-! ### a try that runs through -/
theorem Ctx.nox {X : Cx} {W : WX} {k : Nat} (c : Ctx X W k) : Ctx X.nox W0 k := ⟨c.calm, takes0N, PassesOwn.never, c.hr, c.nd⟩
section
variable {fr : Bool} {X : Cx} {W : WX} {ow : Ow} {body : List Stmt} {u : SM} {h0 : ExceptHandler} {hs : List ExceptHandler} {pos : Pos} {j : Nat}
theorem s_thru (T : Ctx X W j) (hb : Ctx X.nox W0 j → PSs X.nox body (tS fr X.K W0 ow u)) : PS X (.Try body (h0 :: hs) [] [] pos) (tS fr X.K W ow (thru u)) :=
  PS.of (ps_try_thru0 (hb T.nox)) fun D σ H ⟨A, H0, O, en, R, q⟩ => ⟨A, H0, O, en, R, by
    have q1 : Out (noexc (u en)) (EndOk fr X.K A H0 ow O H D) (badS X.K W A H0) := q
    cases e : u en with
    | ok f =>
      rw [e] at q1
      exact q1
    | exc c fs =>
      rw [e] at q1
      exact q1.elim
    | stuck =>
      rw [e] at q1
      exact q1.elim⟩
end
/-! ### what the module's names stand for -/
/-- the name x calls a def of n parameters that computes fm -/
def CallOk (P : Program) (w : World) (K : Frag) (mg : Str → Option Value) (base : Heap) (k : Nat) (x : Str) (d : He.DefD) (ps : List Str) (n : Nat) (fm : List D → Res D) : Prop := ∃ f fd, mg x = some (.ref f) ∧ PySem.W.keepIn K (.ref f) = true ∧ Binds K fd ps [] ∧ FnOk P w K mg base (L2N.CX P w) k f fd ps (spM K n fm) ∧ Ar n fm ∧ FunD K d.name d.qual d.params d.body d.scope [] [] f fd
/-- the name cls makes an instance -/
def MakeOk (P : Program) (w : World) (K : Frag) (mg : Str → Option Value) (base : Heap) (k : Nat) (cls : String) (n : Nat) (fm : List D → Res D) : Prop := ∃ f fd ps, mg (Str.ofString cls) = some (.ref (ca K cls)) ∧ Mk K (ca K cls) f ∧ Binds K fd ps [] ∧ FnOk P w K mg base (L2N.CX P w) k f fd ps (spI K n cls fm) ∧ (∀ ds d, fm ds = .ok d → ds.length + 1 = n) ∧ ∀ ds c fs, fm ds = .exc c fs → ds.length + 1 = n
section
variable {X : Cx} {W : WX} {ow : Ow} {e : Expr} {es : List Expr} {am : AM} {pos p : Pos} {k j n : Nat} {x : Str} {fm : List D → Res D} {d : He.DefD} {ps : List Str}
theorem x_own1 (T : Ctx X W j) (C : CallOk X.prog X.w X.K X.mg X.base k x d ps n fm) (hk : k ≤ j) (hg : Gl X x) (ha : PA X (e :: es) (aE X.K W ow am)) (hdb : (x == ("__debug__" : Str)) = false := by decide)
    (he : starEach (e :: es) X.env = (false, eval e X.env) :: starEach es X.env := by rfl) (hpl : (backTo pos (starEach es X.env)).any (·.1) = false := by rfl) : PE X (.Call (.Name x p) (e :: es) [] pos) (tE X.K W ow (call fm am)) := by
  obtain ⟨f, fd, h1, h2, h3, h4, h5, _⟩ := C
  exact x_call T h4 h5 hk hg h1 h2 h3 ha hdb he hpl
theorem x_new {cls : String} (T : Ctx X W j) (C : MakeOk X.prog X.w X.K X.mg X.base k cls n fm) (hk : k + 1 ≤ j) (hg : Gl X (Str.ofString cls)) (ha : PA X (e :: es) (aE X.K W ow am)) (hdb : (Str.ofString cls == ("__debug__" : Str)) = false := by decide)
    (he : starEach (e :: es) X.env = (false, eval e X.env) :: starEach es X.env := by rfl) (hpl : (backTo pos (starEach es X.env)).any (·.1) = false := by rfl) : PE X (.Call (.Name (Str.ofString cls) p) (e :: es) [] pos) (tE X.K W ow (call fm am)) := by
  obtain ⟨f, fd, ps, h1, h2, h3, h4, h5, h6⟩ := C
  exact x_make T h2 h4 h5 h6 hk hg h1 h3 ha hdb he hpl
end
/-! ### defs by the head's facts -/
section
variable {P : Program} {w : World} {K : Frag} {mg : Str → Option Value} {base : Heap} {k : Nat} {ow oN oB : Ow} {m : SM} {name qual : Str} {params : Arguments} {body : List Stmt} {scope : Scope} {f : Addr} {N ps : List Str} {p n : Nat}
theorem def_ok {d : He.DefD} (F : ∃ fd, FunD K d.name d.qual d.params d.body d.scope [] [] f fd) (g : mg d.name = some (.ref f)) (S : FnScope N ps d.scope) (hpl : ps.length = p) (hnl : N.length = n) (hp : ∀ i, i < p → ow i = false)
    (hbind : ∀ (kV doc pm : Value) (an : Option Addr) (cdv ct : Value) (us : List Value), us.length = ps.length → bindArgs (PySem.W.fnOf d.name d.qual d.params d.body d.scope .none kV doc pm an cdv ct) ⟨us, []⟩ = pure (ps.zip us))
    (hb : ∀ (cdv : Value) (A : Around) (outer : List PySem.Env) (s : Shared) (H : Hp) (E : XK), Ctx (cxOf (L2N.CX P w) P w K mg base N d.qual d.scope f cdv A outer s H E) (WD E) k →
      PSs (cxOf (L2N.CX P w) P w K mg base N d.qual d.scope f cdv A outer s H E) d.body (tS3 false K (WD E) ow oN oB m)) (hx : ow.x = none := by rfl) : CallOk P w K mg base (k + 1) d.name d ps p (fn p n m) := by
  obtain ⟨fd, F⟩ := F
  subst hpl hnl
  exact ⟨f, fd, g, F.kp, FunD.bindsN F hbind, fn_ok F S hx hp hb, ar_fn, F⟩
theorem ar_made {p n : Nat} {cls : String} {body : SM} : (∀ ds d, made p n cls body ds = .ok d → ds.length + 1 = p) ∧ ∀ ds c fs, made p n cls body ds = .exc c fs → ds.length + 1 = p := by
  refine ⟨fun ds d h => ?_, fun ds c fs h => ?_⟩ <;> (unfold made at h; split at h; (· assumption); (· cases h))
theorem cls_ok {cls : String} (F : ∃ fd, FunD K name qual params body scope [] [] f fd) (g : mg (Str.ofString cls) = some (.ref (ca K cls))) (M : Mk K (ca K cls) f) (S : FnScope N ps scope) (hpl : ps.length = p) (hnl : N.length = n) (h0 : ow 0 = true) (hp0 : 0 < p) (hp : ∀ i, i < p → 0 < i → ow i = false)
    (hbind : ∀ (kV doc pm : Value) (an : Option Addr) (cdv ct : Value) (us : List Value), us.length = ps.length → bindArgs (PySem.W.fnOf name qual params body scope .none kV doc pm an cdv ct) ⟨us, []⟩ = pure (ps.zip us))
    (hb : ∀ (cdv : Value) (A : Around) (outer : List PySem.Env) (s : Shared) (H : Hp) (E : XK), Ctx (cxOf (L2N.CX P w) P w K mg base N qual scope f cdv A outer s H E) (WD E) k →
      PSs (cxOf (L2N.CX P w) P w K mg base N qual scope f cdv A outer s H E) body (tS false K (WD E) ow m)) (hx : ow.x = none := by rfl) : MakeOk P w K mg base (k + 1) cls p (made p n cls m) := by
  obtain ⟨fd, F⟩ := F
  subst hpl hnl
  exact ⟨f, fd, ps, g, M, FunD.bindsN F hbind, init_ok F S hx h0 hp0 (fun i a b => hp i b a) hb, ar_made.1, ar_made.2⟩
end
/-! ### the head's facts, tables, and one more -/
/-! ### a table of texts -/
/-! ### append -/
theorem s_app1 {fr : Bool} {X : Cx} {W : WX} {ow : Ow} {i : Nat} {o e : Expr} {m : EM} {apos cpos pos : Pos} (ho : PE X o (tVar i)) (h : PE X e (tE X.K W ow m)) (hi : ow i = true)
    (hbase : attributeBase o "append" X.env (eval o X.env) = eval o X.env := by rfl)
    (hfew : ((backTo cpos (starEach [e] X.env)).all (fun x => !x.1) && (backToKw cpos (keywordEach [] X.env)).all (fun x => x.1.isSome)
      && decide (([e] : List Expr).length + ([] : List Keyword).length + (if ([] : List Keyword).isEmpty then 0 else 1) < 30)) = true := by rfl)
    (hline : (apos.endLine == cpos.line) = true := by rfl) (hs : starEach [e] X.env = [(false, eval e X.env)] := by rfl)
    (hsw : swapsWith (.Call (.Attribute o "append" apos) [e] [] cpos) none pos.line X.env = pure false := by rfl) :
    PS X (.Expr (.Call (.Attribute o "append" apos) [e] [] cpos) pos) (tS fr X.K W ow (app i m)) :=
  s_app (ps_expr (pe_bm PySem.F.plainAttrs_list PySem.F.slot_list_append PySem.F.type_list_append mt_append ho (pa_cons h pa_nil hs) hbase hfew hline hs (by rfl)) hsw) hi
/-! ### code that is not reached -/
/-! ### the law -/
end Py
/-! What a head tells, in one place; the law's end. -/
namespace Py
open PySem L2
open He (Fa DefD Tab)
theorem Ctx.eq {X : Cx} {W : WX} {k : Nat} (T : Ctx X W k) : OpR X (compareOp .Eq) (r2 X.K oeq) := y_eq (by have := T.hr.un; omega)
theorem Ctx.ne {X : Cx} {W : WX} {k : Nat} (T : Ctx X W k) : OpR X (compareOp .NotEq) (r2 X.K one) := y_ne (by have := T.hr.un; omega)
theorem hv_len : bootBuiltins "len" = some (.builtin "len") := by decide +kernel
theorem hv_sum : bootBuiltins "sum" = some (.builtin "sum") := by decide +kernel
theorem hv_all : bootBuiltins "all" = some (.builtin "all") := by decide +kernel
theorem hv_max : bootBuiltins "max" = some (.builtin "max") := by decide +kernel
theorem hv_min : bootBuiltins "min" = some (.builtin "min") := by decide +kernel
theorem hv_int : bootBuiltins "int" = some (.type "int") := by decide +kernel
theorem hv_tuple : bootBuiltins "tuple" = some (.type "tuple") := by decide +kernel
theorem hv_list : bootBuiltins "list" = some (.type "list") := by decide +kernel
theorem hv_bool : bootBuiltins "bool" = some (.type "bool") := by decide +kernel
theorem h_iadd {K : Frag} : ∀ x y H Q, r2 K oiadd x y H Q → ipI (fun i j => i + j) x y H Q := fun x y H Q ⟨A, d1, d2, d, h1, h2, _, e, k⟩ => by
  cases d1 <;> cases d2 <;> simp only [oiadd, Res.ok.injEq, reduceCtorEq] at e
  subst e
  exact ⟨_, _, h1, h2, k _ H (Same.refl H) (flat_rep (d := .int _) rfl _ _)⟩
theorem n_iadd : NoEx2 oiadd := fun x y c fs => by cases x <;> cases y <;> exact fun z => nomatch z
/-! ### the list objects left out -/
theorem klookup_mem {a : Addr} {o : Obj} : ∀ {l : List (Addr × Obj)}, l.lookup a = some o → (a, o) ∈ l
  | [], h => by cases h
  | (b, u) :: r, h => by
    rw [List.lookup_cons] at h
    split at h
    · rename_i e
      have e1 : a = b := by simpa using e
      cases h
      subst e1
      exact List.mem_cons_self
    · exact List.mem_cons_of_mem _ (klookup_mem h)
theorem sqL_rd {K : Frag} (h : noL K = true) {H : Hp} {a : Addr} {vs : List V} (q : SqL K H a vs) : Rd H a (.lst vs) := by
  rcases q with q | ⟨o, its, n, hk, hc, _⟩
  · exact q
  · have m := List.all_eq_true.mp h _ (klookup_mem hk)
    simp [notList, hc] at m
/-! ### facts -/
structure Facts (fa : List Fa) (fn : List DefD) (ts : List Tab) (ms : List (Frag → Bool)) (w : World) (K : Frag) (mg : Str → Option Value) : Prop where
  c : He.SaysT fa fn ts w K
  m : (noL K && ms.all fun m => m K) = true
  h : ∃ h : Heap, K.In h ∧ h.Ns mainGlobals mg
section
variable {fa : List Fa} {fn : List DefD} {ts : List Tab} {ms : List (Frag → Bool)} {w : World} {K : Frag} {mg : Str → Option Value}
theorem Facts.glo (Y : Facts fa fn ts ms w K mg) (i : Nat) {x : Str} (h : fa[i]? = some (.glo x) := by rfl) : mg x = some (.ref (He.ga K x)) := by
  obtain ⟨_, KX, G⟩ := Y.h
  exact He.glo_ok KX G (Y.c.d.fact i h)
theorem Facts.free (Y : Facts fa fn ts ms w K mg) (i : Nat) {x : Str} (h : fa[i]? = some (.free x) := by rfl) : mg x = none := by
  obtain ⟨_, KX, G⟩ := Y.h
  exact He.free_ok KX G (Y.c.d.fact i h)
theorem Facts.mkr (Y : Facts fa fn ts ms w K mg) (i : Nat) {x : String} (h : fa[i]? = some (.mkr (Str.ofString x)) := by rfl) : Mk K (ca K x) (He.ma K (ca K x) "__init__") := He.mkr_ok (Y.c.d.fact i h)
theorem Facts.def_ (Y : Facts fa fn ts ms w K mg) (i : Nat) {d : DefD} (h : fn[i]? = some d := by rfl) : ∃ fd, FunD K d.name d.qual d.params d.body d.scope (d.dvs K) (d.kws K) (He.fAd K d.at_) fd := Y.c.d.def_ i h
theorem Facts.more (Y : Facts fa fn ts ms w K mg) (i : Nat) {m : Frag → Bool} (h : ms[i]? = some m := by rfl) : m K = true := by
  have q := Y.m
  rw [Bool.and_eq_true] at q
  exact List.all_eq_true.mp q.2 m (List.mem_of_getElem? h)
theorem Facts.noL (Y : Facts fa fn ts ms w K mg) : noL K = true := by
  have q := Y.m
  rw [Bool.and_eq_true] at q
  exact q.1
theorem att_ok {cs : List String} {f : String} (h : attB cs f K = true) : ∀ c ∈ cs, Cls K (ca K c) ∧ NoAttr K (ca K c) (Str.ofString f) := fun c hc => by
  have q := List.all_eq_true.mp h c hc
  rw [Bool.and_eq_true] at q
  exact ⟨He.cls_ok q.1, He.noat_ok q.2⟩
end
/-! ### the law's def -/
section
variable {P : Program} {w : World} {K : Frag} {mg : Str → Option Value} {k : Nat} {ow oN oB : Ow} {m : SM} {qual : Str} {params : Arguments} {body : List Stmt} {scope : Scope} {f : Addr} {N : List Str} {n : Nat}
theorem law_ok (F : ∃ fd, FunD K "law" qual params body scope [] [] f fd) (S : FnScope N ["script"] scope) (hnl : N.length = n) (hp : ow 0 = false)
    (hbind : ∀ (kV doc pm : Value) (an : Option Addr) (cdv ct : Value) (us : List Value), us.length = 1 → bindArgs (PySem.W.fnOf "law" qual params body scope .none kV doc pm an cdv ct) ⟨us, []⟩ = pure ((["script"] : List Str).zip us))
    (hb : ∀ (base : Heap) (cdv : Value) (A : Around) (outer : List PySem.Env) (s : Shared) (H : Hp) (E : XK), Ctx (cxOf (L2N.CX P w) P w K mg base N qual scope f cdv A outer s H E) (WD E) k →
      PSs (cxOf (L2N.CX P w) P w K mg base N qual scope f cdv A outer s H E) body (tS3 false K (WD E) ow oN oB m)) (hx : ow.x = none := by rfl) :
    ∃ fd : FuncData, (∀ (s : Shared) (u : Value), BindsTo s fd ⟨[u], []⟩ [("script", u)]) ∧ ∀ base : Heap, FnOk P w K mg base (L2N.CX P w) (k + 1) f fd ["script"] (spM K 1 (fn 1 n m)) := by
  obtain ⟨fd, F⟩ := F
  subst hnl
  have b := FunD.bindsA (ps := ["script"]) F hbind
  exact ⟨fd, fun s v => b s [v] rfl, fun base => fn_ok F S hx (fun i hi => by
    have : i = 0 := by simpa using hi
    subst this
    exact hp) (hb base)⟩
theorem ints_rep {K : Frag} {A : AS} {H : Hp} : ∀ ns : List Int, RepL K A H (ns.map D.int) (ns.map V.int)
  | [] => by simp [RepL]
  | n :: ns => by
    simp only [List.map_cons, RepL]
    exact ⟨_, _, rfl, rfl, ints_rep ns⟩
/-- what escapes nothing can be handed out -/
theorem cx_none {P : Program} {w : World} {H : Hp} {s : Shared} {e : Value} {s' : Shared} (h : L2N.CX P w [] H s (fun _ _ _ => False) e s') : False := by
  obtain ⟨a, B, H', cls, d, rfl, fl, hok, ub, na, os, ag, hE⟩ := h
  exact hE
open PyProof.Rows in
theorem walk_ofW {l : PySem.W.OpenLaw} {n k : Nat} {q : Program} {loose : List Str} {XP : (Str → Option Value) → Heap → Prop} {YP : World → Heap → Prop} {d : DefRec} {CX : World → CXT} {x : Str}
    (hn : l.most = some n) (hn2 : n ≤ sizeLine) (hdf : d.params.defaults = []) (hr : Room k callerA)
    (F : ∀ (w : World) (mg : Str → Option Value) (fa : Addr) (h : Heap), YP w h → h.Ns mainGlobals mg → mg d.name = some (.ref fa) →
      ∃ (K : PySem.W.Frag) (fd : FuncData) (sp : Sp), K.In h ∧ (∀ (s : Shared) (u : Value), BindsTo s fd ⟨[u], []⟩ [(x, u)]) ∧
        (∀ (H : Hp) (a : Addr) (ns : List Int), ns.length ≤ n → Only H → SqL K H a (ns.map V.int) → sp [.ref a] H (fun v _ => v = .bl true) fun _ _ _ => False) ∧
        ∀ base : Heap, K.In base → base.Ns mainGlobals mg → FnOk l.prog w K mg base (CX w) k fa fd [x] sp)
    (hCX : ∀ (w : World) (H : Hp) (s : Shared) (e : Value) (s' : Shared), CX w [] H s (fun _ _ _ => False) e s' → False) :
    PySem.W.WalkO q loose XP YP l.row.toRowW d [] (fun f vs => PySem.call f vs) := by
  refine Att.attach_call hn hdf fun w s₀ s₁ mg mb fa o pm cd doc a vs ns G Y ho hd hcd hmg hobj hints hlen hg => ?_
  obtain ⟨K, fd, sp, KX, hb, hsp, hF⟩ := F w mg fa _ Y G.T.g hmg
  exact law_call KX G.T.g G.T.b G.T.builtins G.T.nolimit hg hobj hints (Nat.le_trans hlen hn2) hr hF hb (fun H hO hS => hsp H a ns hlen hO hS) fun H e s' => hCX w H s₁ e s'
/-- what the law computes is True: the law holds -/
theorem sp_law {K : Frag} {fm : List D → Res D} (hL : noL K = true) {H : Hp} {a : Addr} {ns : List Int} (hm : fm [.lst (ns.map .int)] = .ok (.bl true)) (hS : SqL K H a (ns.map V.int)) :
    spM K 1 fm [.ref a] H (fun v _ => v = .bl true) fun _ _ _ => False := by
  refine ⟨fun _ => False, [.lst (ns.map .int)], ?_, rfl, fun _ h => h.elim, ?_⟩
  · simp only [RepL]
    refine ⟨_, _, rfl, ?_, rfl⟩
    simp only [Rep]
    exact ⟨a, _, rfl, id, sqL_rd hL hS, ints_rep ns⟩
  · rw [hm]
    exact fun v H' _ r => r
end
end Py
/-! Methods of own classes, zip, constants of the module, |=. -/
namespace Py
open PySem L2
open He (Fa DefD Tab)
/-! ### methods -/
structure MethOk (P : Program) (w : World) (K : Frag) (mg : Str → Option Value) (base : Heap) (k : Nat) (cls mn : String) (n : Nat) (fm : List D → Res D) : Prop where
  ex : ∃ f fd ps, Cls K (ca K cls) ∧ Meth K (ca K cls) (Str.ofString mn) f ∧ Binds K fd ps [] ∧ FnOk P w K mg base (L2N.CX P w) k f fd ps (spM K n fm) ∧ Ar n fm
section
variable {P : Program} {w : World} {K : Frag} {mg : Str → Option Value} {base : Heap} {k : Nat} {ow oN oB : Ow} {m : SM} {f : Addr} {N ps : List Str} {p n : Nat} {cls mn : String}
theorem meth_def {d : He.DefD} (F : ∃ fd, FunD K d.name d.qual d.params d.body d.scope [] [] f fd) (hc : Cls K (ca K cls)) (hme : Meth K (ca K cls) (Str.ofString mn) f) (S : FnScope N ps d.scope) (hpl : ps.length = p) (hnl : N.length = n) (hp : ∀ i, i < p → ow i = false)
    (hbind : ∀ (kV doc pm : Value) (an : Option Addr) (cdv ct : Value) (us : List Value), us.length = ps.length → bindArgs (PySem.W.fnOf d.name d.qual d.params d.body d.scope .none kV doc pm an cdv ct) ⟨us, []⟩ = pure (ps.zip us))
    (hb : ∀ (cdv : Value) (A : Around) (outer : List PySem.Env) (s : Shared) (H : Hp) (E : XK), Ctx (cxOf (L2N.CX P w) P w K mg base N d.qual d.scope f cdv A outer s H E) (WD E) k →
      PSs (cxOf (L2N.CX P w) P w K mg base N d.qual d.scope f cdv A outer s H E) d.body (tS3 false K (WD E) ow oN oB m)) (hx : ow.x = none := by rfl) : MethOk P w K mg base (k + 1) cls mn p (fn p n m) := by
  obtain ⟨fd, F⟩ := F
  subst hpl hnl
  exact ⟨f, fd, ps, hc, hme, FunD.bindsN F hbind, fn_ok F S hx hp hb, ar_fn⟩
end
section
variable {fa : List Fa} {fn : List DefD} {ts : List Tab} {ms : List (Frag → Bool)} {w : World} {K : Frag} {mg : Str → Option Value}
theorem Facts.cls (Y : Facts fa fn ts ms w K mg) (i : Nat) {x : String} (h : fa[i]? = some (.cls (Str.ofString x)) := by rfl) : Cls K (ca K x) := He.cls_ok (Y.c.d.fact i h)
theorem Facts.meth (Y : Facts fa fn ts ms w K mg) (i : Nat) {x : String} {m : Str} (h : fa[i]? = some (.meth (Str.ofString x) m) := by rfl) : Meth K (ca K x) m (He.ma K (ca K x) m) := He.meth_ok (Y.c.d.fact i h)
theorem Facts.int (Y : Facts fa fn ts ms w K mg) (i : Nat) {x : Str} {z : Int} (h : fa[i]? = some (.int x z) := by rfl) : ∃ t, mg x = some (.int z t) := by
  obtain ⟨_, KX, G⟩ := Y.h
  exact He.int_ok KX G (Y.c.d.fact i h)
theorem Facts.str (Y : Facts fa fn ts ms w K mg) (i : Nat) {x z : Str} (h : fa[i]? = some (.str x z) := by rfl) : ∃ t, mg x = some (.str z t) := by
  obtain ⟨_, KX, G⟩ := Y.h
  exact He.str_ok KX G (Y.c.d.fact i h)
end
/-! ### another name of a def -/
/-! ### zip -/
theorem zip_item {K : Frag} {A : AS} {H : Hp} {T : Addr} {d e : D} {v u : V} (hn : H T = none) (r : Rep K A H d v) (q : Rep K A H e u) : Same H (upd H T (.tup [v, u])) ∧ Rep K A (upd H T (.tup [v, u])) (.tup [d, e]) (.ref T) := by
  refine ⟨new_same hn, new_tup ?_ hn⟩
  simp only [RepL]
  exact ⟨_, _, rfl, r, _, [], rfl, q, rfl⟩
theorem zip_get {α β γ : Type} {f : α × β → γ} {xs : List α} {ys : List β} {i : Nat} {x : α} {y : β} (h1 : xs[i]? = some x) (h2 : ys[i]? = some y) : ((xs.zip ys).map f)[i]? = some (f (x, y)) := by
  rw [List.getElem?_map, (List.getElem?_zip_eq_some (z := (x, y))).mpr ⟨h1, h2⟩]
  rfl
/-! ### x |= y -/
end Py
namespace Py
open PySem PySem.Spec PyProof.Rows L2
/-! ### zip over any two of lists and tuples: k = true: a tuple -/
def IAt (k : Bool) (h : Heap) (it l : Addr) (i : Nat) : Prop := match k with | true => h.IsTupleIter it l i | false => h.IsListIter it l i
def SAt (k : Bool) (h : Heap) (l : Addr) (xs : Array Value) : Prop := match k with | true => h.IsTuple l xs | false => h.IsList l xs
def icls (k : Bool) : String := match k with | true => "tuple_iterator" | false => "list_iterator"
theorem IAt.up {k : Bool} {h h' : Heap} {it l : Addr} {i : Nat} (x : IAt k h it l i) (e : ∀ o, h.get? it = some o → h'.get? it = some o) : IAt k h' it l i := by
  cases k with
  | true => exact Heap.IsTupleIter.at x e
  | false => exact Heap.IsListIter.at x e
theorem SAt.up {k : Bool} {h h' : Heap} {l : Addr} {xs : Array Value} (x : SAt k h l xs) (e : ∀ o, h.get? l = some o → h'.get? l = some o) : SAt k h' l xs := by
  cases k with
  | true => obtain ⟨o, ho, r⟩ := x; exact ⟨o, e _ ho, r⟩
  | false => obtain ⟨o, ho, r⟩ := x; exact ⟨o, e _ ho, r⟩
theorem IAt.some {k : Bool} {h : Heap} {it l : Addr} {i : Nat} (x : IAt k h it l i) : ∃ o, h.get? it = some o ∧ ∀ v, o.data ≠ .cell v := by
  cases k with
  | true => obtain ⟨o, ho, _, d⟩ := x; exact ⟨o, ho, fun v q => by rw [d] at q; cases q⟩
  | false => obtain ⟨o, ho, _, d⟩ := x; exact ⟨o, ho, fun v q => by rw [d] at q; cases q⟩
section
variable {prog : Program} {w : World} {A : Around} {E : Value → Shared → Prop} {s : Shared}
theorem draw1 {k : Bool} {it l : Addr} {i : Nat} {xs : Array Value} {x : Value} {Q : Value → Shared → Prop} (a : IAt k s.heap it l i) (b : SAt k s.heap l xs) (hx : xs[i]? = some x)
    (q : ∀ h', IAt k h' it l (i + 1) → Heap.SameBut it s.heap h' → Q x { s with heap := h' }) : wpAny (model prog w) A (Builtin.SmallTypes.nextOf (.ref it)) Q E s := by
  cases k with
  | true => exact RZ.nextOf_tuple_item a b hx q
  | false => exact wpAny_nextOf_list_item a b hx q
theorem draw0 {k : Bool} {it l : Addr} {i : Nat} {xs : Array Value} {Q : Value → Shared → Prop} (hh : A.handled = none) (a : IAt k s.heap it l i) (b : SAt k s.heap l xs) (hx : xs[i]? = none)
    (q : ∀ h' e, Heap.ExtBut it s.heap h' → (∃ o, h'.get? e = some o ∧ o.cls = .type "StopIteration") → E (.ref e) { s with heap := h' }) : wpAny (model prog w) A (Builtin.SmallTypes.nextOf (.ref it)) Q E s := by
  cases k with
  | true => exact RZ.nextOf_tuple_end hh a b hx q
  | false => exact wpAny_nextOf_list_end hh a b hx q
theorem bfield {α : Type} {a : Addr} {o : Obj} {vs : Array Value} {n : Nat} {x : Value} {f : Value → Sem α} {Q : α → Shared → Prop} (ho : s.heap.get? a = some o) (hd : o.data = .fields vs) (hi : vs[n]? = some x) (h : wpAny (model prog w) A (f x) Q E s) : wpAny (model prog w) A (field (.ref a) n >>= f) Q E s := wpAny_bind (wpAny_field ho hd hi h)
/-- what stays while a zip draws -/
def Rest (z TO i1 i2 : Addr) (h h' : Heap) : Prop := ∀ c o, c ≠ z → c ≠ TO → c ≠ i1 → c ≠ i2 → h.get? c = some o → h'.get? c = some o
theorem iter_new {k : Bool} {l : Addr} {xs : Array Value} {Q : Value → Shared → Prop} (q : SAt k s.heap l xs) (h : Q (.ref s.heap.objs.size) { s with heap := s.heap.push { cls := .type (icls k), data := .fields #[.ref l, .int 0 0] } }) : wpAny (model prog w) A (pyIter (.ref l)) Q E s := by
  cases k with
  | true => exact wpAny_pyIter_tuple q h
  | false => exact wpAny_pyIter_list q h
end
abbrev zi (k : Bool) (l : Addr) : Obj := { cls := .type (icls k), data := .fields #[.ref l, .int 0 0] }
abbrev zo (n : Nat) : Obj := { cls := .type "zip", data := .fields #[.none, .bool false, .bool false, .ref (n + 2), .ref (n + 3)] }
abbrev zt (x y : Value) : Obj := { cls := .type "tuple", data := .seq #[x, y] }
abbrev zh (k1 k2 : Bool) (h : Heap) (l1 l2 : Addr) : Heap :=
  let a := h.push (zi k1 l1)
  let b := a.push (zi k2 l2)
  let c := b.push (zt (.ref h.objs.size) (.ref a.objs.size))
  let d := c.push (zt .none .none)
  d.push { cls := .type "zip", data := .fields #[.none, .bool false, .bool false, .ref b.objs.size, .ref c.objs.size] }
theorem meets_zip2 (k1 k2 : Bool) (l1 l2 : Addr) (xs ys : Array Value) : Meets (Builtin.«zip.__new__» ⟨[.type "zip", .ref l1, .ref l2], []⟩) (fun _ R s => SAt k1 s.heap l1 xs ∧ SAt k2 s.heap l2 ys ∧ R (.ok (.ret (.ref (s.heap.objs.size + 1 + 1 + 1 + 1)))) { s with heap := zh k1 k2 s.heap l1 l2 }) := .of_wp fun prog w A R s h => by
  obtain ⟨hp, g, d, tk, os⟩ := s
  obtain ⟨q1, q2, h⟩ := h
  have sub := sub_zip
  have p1 : SAt k1 (Shared.heap ⟨hp, g, d, tk, os⟩) l1 xs := q1
  have p2 : SAt k2 (Shared.heap ⟨hp.push (zi k1 l1), g, d, tk, os⟩) l2 ys := q2.up fun o e => Heap.get?_push_of_some _ e
  wp_walk using iter_new p1, iter_new p2
  exact ⟨_, by simp only [Heap.size_push], h⟩
section
variable {prog : Program} {w : World} {A : Around} {E : Value → Shared → Prop} {s : Shared}
theorem zip_call {k1 k2 : Bool} {l1 l2 : Addr} {xs ys : Array Value} {Q : Value → Shared → Prop} (q1 : SAt k1 s.heap l1 xs) (q2 : SAt k2 s.heap l2 ys)
    (h : ∀ h' n, n = s.heap.objs.size → IsZip h' (n + 4) (n + 2) (n + 3) .none → IsPair h' (n + 2) (.ref n) (.ref (n + 1)) → IsPair h' (n + 3) .none .none → IAt k1 h' n l1 0 → IAt k2 h' (n + 1) l2 0 → (∀ c o, s.heap.get? c = some o → h'.get? c = some o) → Q (.ref (n + 4)) { s with heap := h' }) :
    wpAny (model prog w) A (PySem.call (.type "zip") [.ref l1, .ref l2]) Q E s := by
  refine callType_new F.called_zip (by decide) (F.typeCall_zip_2 _ _) (F.newCall_zip_2 _ _) (fun obj => F.args_object_init_3 obj _ _) F.entry_zip_new (meets_zip2 k1 k2 l1 l2 xs ys) ⟨q1, q2, ?_⟩
  have g : ∀ (h : Heap) (o : Obj) (n : Nat), h.objs.size = n → Obj.isFreed o = false → (h.push o).get? n = some o := fun h o n e f => by
    rw [← e]
    exact Heap.get?_push_size _ f
  have up : ∀ {h : Heap} {o p : Obj} {n : Nat}, h.get? n = some p → (h.push o).get? n = some p := fun e => Heap.get?_push_of_some _ e
  have i1 : ∀ (k : Bool) (l : Addr), Obj.isFreed (zi k l) = false := fun k l => rfl
  generalize hn : s.heap.objs.size = n
  have g5 : (zh k1 k2 s.heap l1 l2).get? (n + 4) = some (zo n) := by
    have := g ((((s.heap.push (zi k1 l1)).push (zi k2 l2)).push (zt (.ref n) (.ref (n + 1)))).push (zt .none .none)) (zo n) (n + 4) (by simp only [Heap.size_push, hn]) rfl
    unfold zh
    simp only [Heap.size_push, hn]
    exact this
  have g4 : (zh k1 k2 s.heap l1 l2).get? (n + 3) = some (zt .none .none) := up (g _ _ _ (by simp only [Heap.size_push, hn]) rfl)
  have g3 : (zh k1 k2 s.heap l1 l2).get? (n + 2) = some (zt (.ref n) (.ref (n + 1))) := by
    have := g ((s.heap.push (zi k1 l1)).push (zi k2 l2)) (zt (.ref n) (.ref (n + 1))) (n + 2) (by simp only [Heap.size_push, hn]) rfl
    refine up (up ?_)
    simpa only [Heap.size_push, hn] using this
  have g2 : (zh k1 k2 s.heap l1 l2).get? (n + 1) = some (zi k2 l2) := up (up (up (g _ _ _ (by simp only [Heap.size_push, hn]) (i1 k2 l2))))
  have g1 : (zh k1 k2 s.heap l1 l2).get? n = some (zi k1 l1) := up (up (up (up (g _ _ _ hn (i1 k1 l1)))))
  refine ⟨⟨_, g5, rfl⟩, h _ n hn.symm g5 g3 g4 ?_ ?_ fun c o x => up (up (up (up (up x))))⟩
  · cases k1 with
    | true => exact ⟨_, g1, rfl, rfl⟩
    | false => exact ⟨_, g1, rfl, rfl⟩
  · cases k2 with
    | true => exact ⟨_, g2, rfl, rfl⟩
    | false => exact ⟨_, g2, rfl, rfl⟩
end
/-! the turn -/
def SqK (k : Bool) (K : Frag) (H : Hp) (a : Addr) (xs : List V) : Prop := match k with | true => SqT K H a xs | false => SqL K H a xs
theorem SqK.at {k : Bool} {X : Cx} {pins : List (Addr × Obj)} {σ : L2.St} {H : Hp} {s : Shared} {a : Addr} {xs : List V} (I : Inv X pins σ H s) (q : SqK k X.K H a xs) : ∃ its, Vals xs its ∧ SAt k s.heap a its.toArray ∧ a < s.heap.objs.size := by
  cases k with
  | true =>
    obtain ⟨its, r, p, _⟩ := I.tuple q
    obtain ⟨o, ho, _⟩ := id p
    exact ⟨its, r, p, Heap.lt_size ho⟩
  | false =>
    obtain ⟨its, r, p, _⟩ := I.list q
    exact ⟨its, r, p.isList, p.lt⟩
theorem SqK.inj {k : Bool} {X : Cx} {pins : List (Addr × Obj)} {σ : L2.St} {H : Hp} {s : Shared} {a : Addr} {xs ys : List V} (I : Inv X pins σ H s) (q : SqK k X.K H a xs) (q' : SqK k X.K H a ys) : xs = ys := by
  cases k with
  | true => exact I.tuple_inj q q'
  | false => exact I.list_inj q q'
/-! ### zip in the mirror -/
theorem rep_sq {K : Frag} {A : AS} {O : OW} {H : Hp} {d : D} {v : V} {k : Bool} {ds : List D} (e : seqOf d = some (k, ds)) (r : Rep K (AO A O) H d v) : ∃ a vs, v = .ref a ∧ (∀ A2 H2, Mv (AO A O) H A2 H2 → SqK k K H2 a vs) ∧ RepL K (AO A O) H ds vs := by
  cases d with
  | lst xs =>
    cases e
    obtain ⟨x, vs, rfl, n, h, r⟩ := (by simpa only [Rep] using r : ∃ a vs, v = .ref a ∧ ¬ AO A O a ∧ Rd H a (.lst vs) ∧ RepL K (AO A O) H ds vs)
    exact ⟨x, vs, rfl, fun A2 H2 m => .inl (Rd.move m h n).1, r⟩
  | tup xs =>
    cases e
    obtain ⟨x, vs, rfl, h, r⟩ := (by simpa only [Rep] using r : ∃ a vs, v = .ref a ∧ SqT K H a vs ∧ RepL K (AO A O) H ds vs)
    exact ⟨x, vs, rfl, fun A2 H2 m => SqT.move m h, r⟩
  | _ => cases e
end Py
/-! Who owns what, statement by statement. -/
namespace Py
open PySem L2
/-- the names that own what they hold -/
def ownS : List Nat → Nat → Bool
  | [], _ => false
  | j :: l, i => i == j || ownS l i
theorem owS_mem : ∀ {l : List Nat} {i : Nat}, ownS l i = true → i ∈ l
  | j :: l, i, h => by
    unfold ownS at h
    rw [Bool.or_eq_true] at h
    rcases h with h | h
    · exact List.mem_cons.mpr (.inl (by simpa using h))
    · exact List.mem_cons_of_mem _ (owS_mem h)
theorem owS_le {l l' : List Nat} (h : (l'.all fun i => ownS l i) = true) : ∀ i, ownS l' i = true → ownS l i = true := fun i hi => List.all_eq_true.mp h i (owS_mem hi)
theorem owS_add {l l' : List Nat} {i : Nat} (h : (l'.all fun j => j == i || ownS l j) = true ∧ ownS l' i = true ∧ (l.all fun j => ownS l' j) = true) : ∀ j, ownS l' j = (j == i || ownS l j) := fun j => by
  obtain ⟨h1, h2, h3⟩ := h
  cases e : ownS l' j with
  | true => exact (List.all_eq_true.mp h1 j (owS_mem e)).symm
  | false =>
    cases e2 : (j == i || ownS l j) with
    | false => rfl
    | true =>
      rw [Bool.or_eq_true] at e2
      rcases e2 with e2 | e2
      · rw [show j = i by simpa using e2, h2] at e
        cases e
      · rw [List.all_eq_true.mp h3 j (owS_mem e2)] at e
        cases e
abbrev owS (l : List Nat) : Ow := ⟨ownS l, none⟩
/-- the new owners know no more of an error -/
def XLe (o1 o : Ow) : Prop := o1.x = none ∨ (o1.x = o.x ∧ ∀ q, o1.x = some q → o q.i = true → o1 q.i = true)
theorem XLe.refl {o : Ow} : XLe o o := .inr ⟨rfl, fun _ _ z => z⟩
theorem XFact.cut {K : Frag} {A : AS} {H : Hp} {σ : L2.St} {e : Env} {o o1 : Ow} (h : XFact K A H σ e o) (l : XLe o1 o) : XFact K A H σ e o1 := fun q hq => by
  rcases l with l | ⟨l1, l2⟩
  · rw [l] at hq
    cases hq
  · obtain ⟨h1, h2, h3, h4⟩ := h q (l1 ▸ hq)
    exact ⟨l2 q hq h1, h2, h3, h4⟩
section
variable {fr : Bool} {K : Frag} {A : AS} {H0 : Base} {ow o1 oN oB : Ow} {O : OW} {σ : L2.St} {H H' : Hp} {e : Env}
def cutO (ow o1 : Ow) (O : OW) : OW := fun i => if ow i = true ∧ o1 i = false then none else O i
theorem cutO_some {i : Nat} {a : Addr} (h : cutO ow o1 O i = some a) : O i = some a := by
  unfold cutO at h
  split at h
  · cases h
  · exact h
theorem cut_less : ∀ a, AO A (cutO ow o1 O) a → AO A O a := fun a h => h.elim .inl fun ⟨i, q⟩ => .inr ⟨i, cutO_some q⟩
/-- some names give up what they own -/
theorem ER.part (R : ER K A H0 ow O σ H e) (h : ∀ i, o1 i = true → ow i = true) (h0 : ow 0 = true → o1 0 = true) (hx : XLe o1 ow) : ER K A H0 o1 (cutO ow o1 O) σ H e := by
  have mv : Mv (AO A O) H (AO A (cutO ow o1 O)) H := Mv.less cut_less
  have stay : ∀ i, o1 i = true → cutO ow o1 O i = O i := fun i hi => by
    unfold cutO
    rw [if_neg]
    rintro ⟨_, z⟩
    rw [hi] at z
    cases z
  refine ⟨R.len, R.a0, R.same, fun i d h1 h2 => ?_, fun i d h1 h2 => ?_, fun i a q => R.fresh i a (cutO_some q), fun i j a q q' => R.inj i j a (cutO_some q) (cutO_some q'), fun a q => ?_, (R.exq.heap mv fun _ _ e => e).cut hx⟩
  · cases hi : ow i with
    | false =>
      obtain ⟨v, q, r⟩ := R.vals i d h1 hi
      exact ⟨v, q, Rep.move mv _ _ r⟩
    | true =>
      obtain ⟨a, q, q2, r⟩ := R.owns i d h1 hi
      refine ⟨.ref a, q2, ?_⟩
      have na : ¬ AO A (cutO ow o1 O) a := by
        rintro (z | ⟨j, z⟩)
        · exact (R.fresh i a q).2.2 z
        · have e1 := R.inj i j a q (cutO_some z)
          subst e1
          unfold cutO at z
          rw [if_pos ⟨hi, h2⟩] at z
          cases z
      exact r.rep mv na
  · obtain ⟨a, q, q2, r⟩ := R.owns i d h1 (h i h2)
    exact ⟨a, (stay i h2).trans q, q2, r.move mv rfl⟩
  · have q0 := R.pin a q
    unfold cutO
    rw [if_neg]
    · exact q0
    · rintro ⟨z1, z2⟩
      rw [h0 z1] at z2
      cases z2
/-- a name is to own what comes next -/
theorem ER.opens (R : ER K A H0 ow O σ H e) {i : Nat} (hi : ow i = false) (hN : ∀ j, oN j = (j == i || ow j)) (hx : XLe oN ow) : ER K A H0 oN O σ H (e.set i none) := by
  have other : ∀ j d, (e.set i none)[j]? = some (some d) → i ≠ j ∧ e[j]? = some (some d) := fun j d h => by
    by_cases hj : i = j
    · subst hj
      have hl : i < e.length := by
        have := (List.getElem?_eq_some_iff.mp h).1
        simpa using this
      rw [List.getElem?_set_self hl] at h
      cases h
    · rw [List.getElem?_set_ne hj] at h
      exact ⟨hj, h⟩
  refine ⟨by simp [R.len], R.a0, R.same, fun j d h1 h2 => ?_, fun j d h1 h2 => ?_, R.fresh, R.inj, R.pin, (R.exq.move Mv.refl (fun _ _ e => e) fun j hj n => ?_).cut hx⟩
  rotate_right
  · have hne : i ≠ j := fun z => by
      rw [z, hj] at hi
      cases hi
    rw [List.getElem?_set_ne hne]
    exact ⟨rfl, n⟩
  · obtain ⟨hj, h3⟩ := other j d h1
    rw [hN, show (j == i) = false by simpa using fun z => hj z.symm, Bool.false_or] at h2
    exact R.vals j d h3 h2
  · obtain ⟨hj, h3⟩ := other j d h1
    rw [hN, show (j == i) = false by simpa using fun z => hj z.symm, Bool.false_or] at h2
    exact R.owns j d h3 h2
theorem EndOk3.le {o1 oB1 : Ow} {D : Ends} (hN : ∀ i, oN i = true → o1 i = true) (hN0 : o1 0 = true → oN 0 = true) (hB : ∀ i, oB i = true → oB1 i = true) (hB0 : oB1 0 = true → oB 0 = true) (hNx : XLe oN o1) (hBx : XLe oB oB1) : ∀ {f : Fl}, EndOk3 fr K A H0 oN oB O H D f → EndOk3 fr K A H0 o1 oB1 O H D f
  | .next _, h => fun O' σ' H' R n => h _ σ' H' (R.part hN hN0 hNx) (n.trans (Mv.less cut_less))
  | .ret _, h => h
  | .brk _, h => fun O' σ' H' R n => h _ σ' H' (R.part hB hB0 hBx) (n.trans (Mv.less cut_less))
  | .cnt _, h => fun O' σ' H' R n => h _ σ' H' (R.part hB hB0 hBx) (n.trans (Mv.less cut_less))
end
section
variable {fr : Bool} {X : Cx} {W : WX} {ow o1 oN oB : Ow} {a b c e : Expr} {es : List Expr} {m ma mb mc : EM} {st : Stmt} {rest body orelse : List Stmt} {u v : SM} {t : TM} {pos : Pos} {j : Nat}
/-- a statement that changes no owner -/
theorem s_up (h : PS X st (tS fr X.K W ow u)) (hB : ∀ i, oB i = true → ow i = true) (hB0 : ow 0 = true → oB 0 = true) (hx : XLe oB ow := by first | exact Or.inl rfl | exact XLe.refl | exact Or.inr ⟨rfl, by intro q z; cases z; intro _; rfl⟩) : PS X st (tS3 fr X.K W ow ow oB u) :=
  PS.of h fun D σ H ⟨A, H0, O, en, R, q⟩ => ⟨A, H0, O, en, R, q.good fun f q1 => q1.le (fun _ z => z) (fun z => z) hB hB0 XLe.refl hx⟩
theorem c_nil : PSs X [] (tS3 fr X.K W ow ow oB skip) := PSs.of pss_nil fun D σ H ⟨A, H0, O, en, R, q⟩ => q O σ H R Mv.refl
theorem c_one (h : PS X st (tS3 fr X.K W ow oN oB u)) : PSs X [st] (tS3 fr X.K W ow oN oB u) := pss_one h
theorem c_cons (h : PS X st (tS3 fr X.K W ow o1 oB u)) (k : PSs X rest (tS3 fr X.K W o1 oN oB v)) : PSs X (st :: rest) (tS3 fr X.K W ow oN oB (seq u v)) :=
  PSs.of (pss_cons h k) fun D σ H ⟨A, H0, O, en, R, q⟩ => ⟨A, H0, O, en, R, (Out.bind q).good fun f q1 => by
    cases f with
    | next e' => exact fun O' σ' H' R' mv => ⟨A, H0, O', e', R', q1.good fun f q2 => q2.to mv⟩
    | ret d => exact q1
    | brk e' => exact q1
    | cnt e' => exact q1⟩
/-- names give up what they own -/
theorem c_cut (h : PSs X rest (tS3 fr X.K W o1 oN oB v)) (h1 : ∀ i, o1 i = true → ow i = true) (h0 : ow 0 = true → o1 0 = true) (hx : XLe o1 ow := by first | exact Or.inl rfl | exact XLe.refl | exact Or.inr ⟨rfl, by intro q z; cases z; intro _; rfl⟩) : PSs X rest (tS3 fr X.K W ow oN oB v) :=
  PSs.of h fun D σ H ⟨A, H0, O, en, R, q⟩ => ⟨A, H0, _, en, R.part h1 h0 hx, q.good fun f q1 => q1.to (Mv.less cut_less)⟩
theorem c_end (h : PS X st (tS3 fr X.K W ow o1 oB u)) (h1 : ∀ i, oN i = true → o1 i = true) (h0 : o1 0 = true → oN 0 = true) (hx : XLe oN o1 := by first | exact Or.inl rfl | exact XLe.refl | exact Or.inr ⟨rfl, by intro q z; cases z; intro _; rfl⟩) : PS X st (tS3 fr X.K W ow oN oB u) :=
  PS.of h fun D σ H ⟨A, H0, O, en, R, q⟩ => ⟨A, H0, O, en, R, q.good fun f q1 => q1.le h1 h0 (fun _ z => z) (fun z => z) hx XLe.refl⟩
/-- a name gets a new object of its own -/
theorem c_own {i : Nat} (h : PS X st (tAsg (tF X.K W ow m) (gName i))) (hi : ow i = false) (hN : ∀ j, oN j = (j == i || ow j)) (h0 : 0 < i := by decide) (hx : XLe oN ow := by first | exact Or.inl rfl | exact XLe.refl | exact Or.inr ⟨rfl, by intro q z; cases z; intro _; rfl⟩) : PS X st (tS3 fr X.K W ow oN oB (asg (gnm i) m)) :=
  PS.of h fun D σ H ⟨A, H0, O, en, R, q⟩ => ⟨A, H0, O, en, R, ((Out.bind q).se R).good fun d q1 a H1 n s1 r1 => by
    have hNi : oN i = true := by rw [hN]; simp
    have hxi : ∀ q, oN.x = some q → q.i ≠ i := fun q hq z => by
      rcases hx with hx | ⟨hx, _⟩
      · rw [hx] at hq
        cases hq
      · have z2 := (R.exq q (hx ▸ hq)).own
        rw [z, hi] at z2
        cases z2
    obtain ⟨R2, mv⟩ := (R.opens hi hN hx).take s1 hxi hNi h0 n r1
    rw [List.set_set] at R2
    exact q1 _ _ H1 R2 mv⟩
theorem c_if (hc : PT X a (tT X.K W ow t)) (hb : PSs X body (tS3 fr X.K W ow oN oB u)) (ho : PSs X orelse (tS3 fr X.K W ow oN oB v)) : PS X (.If a body orelse pos) (tS3 fr X.K W ow oN oB (ite t u v)) :=
  PS.of (ps_if hc hb ho) fun D σ H ⟨A, H0, O, en, R, q⟩ => ⟨A, H0, O, en, R, ((Out.bind q).se R).good fun k q1 H1 s1 => by
    cases k with
    | true =>
      rw [if_pos rfl] at q1 ⊢
      exact ⟨A, H0, O, en, R.to s1, q1.good fun f q2 => q2.to (Mv.same s1)⟩
    | false =>
      rw [if_neg (by decide)] at q1 ⊢
      exact ⟨A, H0, O, en, R.to s1, q1.good fun f q2 => q2.to (Mv.same s1)⟩⟩
end
end Py
/-! Defs that give back a new list: their caller owns it. -/
namespace Py
open PySem L2
def spF (K : Frag) (p : Nat) (m : List D → Res D) : Sp := fun vs H Q E => ∃ A ds, RepL K A H ds vs ∧ ds.length = p ∧ (∀ a, A a → H a ≠ none) ∧
  Out (m ds) (fun d => (d = .non → ∀ H', Same H H' → Q .non H') ∧ ∀ a H', H a = none → Same H H' → OwnAt K (fun b => A b ∨ b = a) H' a d → Q (.ref a) H') (fun c fs => ∀ da H' fvs, Same H H' → H' da = some (.xd fvs) → RepF K A H' fs fvs → E (.ref (ca K c)) (some da) H')
theorem spF_le {K : Frag} {p : Nat} {m : List D → Res D} {vs : List V} {H : Hp} {Q : VK} {E : XK} (h : spM K p m vs H Q E) : spF K p m vs H Q E := by
  obtain ⟨A, ds, r, hl, ha, q⟩ := h
  refine ⟨A, ds, r, hl, ha, q.good fun d k => ⟨fun e H' s => ?_, fun a H' n s o => k (.ref a) H' s ?_⟩⟩
  · subst e
    exact k .non H' s rfl
  · have na : ¬ A a := fun z => ha a z n
    have mv : Mv (fun b => A b ∨ b = a) H' A H' := Mv.less fun b x => .inl x
    exact o.rep mv na
/-- the name x calls a def that gives back a new list -/
def CallF (P : Program) (w : World) (K : Frag) (mg : Str → Option Value) (base : Heap) (k : Nat) (x : Str) (d : He.DefD) (ps : List Str) (n : Nat) (fm : List D → Res D) : Prop := ∃ f fd, mg x = some (.ref f) ∧ PySem.W.keepIn K (.ref f) = true ∧ Binds K fd ps [] ∧ FnOk P w K mg base (L2N.CX P w) k f fd ps (spF K n fm) ∧ Ar n fm ∧ FunD K d.name d.qual d.params d.body d.scope [] [] f fd
theorem CallF.le {P : Program} {w : World} {K : Frag} {mg : Str → Option Value} {base : Heap} {k : Nat} {x : Str} {d : He.DefD} {ps : List Str} {n : Nat} {fm : List D → Res D} (C : CallF P w K mg base k x d ps n fm) : CallOk P w K mg base k x d ps n fm := by
  obtain ⟨f, fd, h1, h2, h3, h4, h5⟩ := C
  exact ⟨f, fd, h1, h2, h3, h4.imp fun _ _ _ _ z => spF_le z, h5⟩
end Py
/-! More expressions. -/
namespace Py
open PySem L2
theorem RepL.flat {K : Frag} {A : AS} {H : Hp} {ds : List D} {vs : List V} (h : RepL K A H ds vs) : ∀ n : Nat, RepL K A H (List.replicate n ds).flatten (List.replicate n vs).flatten
  | 0 => by simp [RepL]
  | n + 1 => by
    rw [List.replicate_succ, List.replicate_succ, List.flatten_cons, List.flatten_cons]
    exact h.append (RepL.flat h n)
section
variable {X : Cx} {W : WX} {ow : Ow} {a b : Expr} {ma mb : EM} {pos : Pos}
/-- [..] * n -/
theorem f_rep (ha : PE X a (tF X.K W ow ma)) (hb : PE X b (tW X.K W ow mb)) : PE X (.BinOp a .Mult b pos) (tF X.K W ow (bin olrep ma mb)) :=
  PE.of (pe_op op_rep ha hb) fun σ H Q ⟨A, H0, O, en, R, q⟩ => by
    refine ⟨A, H0, O, en, R, (Out.bind q).good fun d1 q1 l H1 n1 s1 r1 => ?_⟩
    refine ⟨A, H0, O, en, R.to s1, ((Out.bind q1).to s1).good fun d2 q2 v2 H2 s2 r2 => ?_⟩
    cases d1 with
    | lst xs =>
      cases d2 with
      | int k =>
        obtain ⟨vs, e1, p1⟩ := r1
        have e2 : v2 = .int k := rep_int r2
        subst e2
        by_cases hc : xs.length ≤ 1000 ∧ k.natAbs ≤ 10000
        · have e3 : olrep (.lst xs) (.int k) = .ok (.lst (List.replicate k.toNat xs).flatten) := if_pos hc
          rw [e3] at q2
          have q3 := q2
          have hl := p1.length
          refine ⟨l, k, vs, rfl, rfl, s2 _ _ e1, by omega, by omega, ?_, fun p hp => ?_⟩
          · have : vs.length * k.toNat ≤ 1000 * 10000 := Nat.mul_le_mul (by omega) (by omega)
            exact Nat.le_trans this (by decide)
          · have s12 := s1.trans s2
            have np1 : H1 p = none := by
              cases z : H1 p with
              | none => rfl
              | some o =>
                rw [s2 p o z] at hp
                cases hp
            have np : H p = none := by
              cases z : H p with
              | none => rfl
              | some o =>
                rw [s12 p o z] at hp
                cases hp
            have s3 : Same H2 (upd H2 p (.lst (List.replicate k.toNat vs).flatten)) := new_same hp
            refine q3 p _ np (s12.trans s3) ⟨_, upd_same, RepL.move ⟨fun b hb => ?_, fun b o e hb => (s2.trans s3) b o e⟩ _ _ (p1.flat k.toNat)⟩
            rcases hb with hb | hb
            · exact .inl (.inl hb)
            · rw [hb]
              exact .inr np1
        · have e3 : olrep (.lst xs) (.int k) = .stuck := if_neg hc
          rw [e3] at q2
          exact q2.elim
      | _ => exact (q2 : False).elim
    | _ => exact (show False from q2).elim
end
end Py
/-! The __init__ of an own exception: super().__init__(..), then its fields. -/
namespace Py
open PySem L2 PyProof.Rows
/-- an exception's __init__ that keeps what it is given, under these names -/
def spX (C : Addr) (n : Nat) (fs : List Str) : Sp := fun vs H Q E => ∃ a H1 ws, vs = .ref a :: ws ∧ H = upd H1 a (exo a C none) ∧ H1 a = none ∧ ws.length = n ∧
  ∀ d H2, H2 a = some (exo a C (some d)) → H2 d = some (exd d (fs.zip ws).reverse) → H1 d = none → d ≠ a → (∀ b, b ≠ a → b ≠ d → H2 b = H1 b) → Q .non H2
/-- what the written part tells of the class C whose __init__ is f -/
structure XIn (P : Program) (K : Frag) (C f cc cda : Addr) (nm qual : Str) (params : Arguments) (body : List Stmt) (scope : Scope) (fd : FuncData) : Prop where
  fn : ∃ (oc : Value) (od : Option Addr) (dV kV doc pm : Value) (an : Option Addr) (ct : Value) (osl : Array (Option Value)),
    fd = PySem.W.ksFn nm qual params body scope dV kV doc pm an (.ref cda) ct cc ∧ K.lookup f = some ⟨oc, od, .func fd, osl⟩
  cd : PySem.W.codeIn K (.ref cda) qual = true
  fl : ∃ (ccl : Value) (cdd : Option Addr) (vs : Array Value) (ccs : Array (Option Value)) (file : Str) (tf : Tok), K.lookup cda = some ⟨ccl, cdd, .fields vs, ccs⟩ ∧ vs[2]? = some (.str file tf) ∧ ((P.main.file : Str) == file) = true
  cell : ∃ (cl : Value) (cld : Option Addr) (csl : Array (Option Value)), K.lookup cc = some ⟨cl, cld, .cell (some (.ref C)), csl⟩
  T : OexC K C
  sup : PySem.W.ks_superIn K C C "__init__" = some (some (.builtin "ValueError.__init__"))
  ve : PySem.W.subIn K (.ref C) (.type "ValueError") = some true
  me : PySem.W.mroIn K C (.ref C) = some true
  thi : PySem.W.nsIn K cStatics "thirdparty.any" = some none
theorem oexC_cd {K : Frag} {C : Addr} (T : OexC K C) : ∃ (cd : ClassData) (dd : Option Addr) (sl : Array (Option Value)), PySem.W.clsIn K C = some cd ∧ K.lookup C = some ⟨.type "type", dd, .cls cd, sl⟩ := by
  obtain ⟨nm, q, N, bs, bm, sn, sub, ab, col, dd, k0, k1, k2, k3, k5, hC, hbm⟩ := T.cls
  exact ⟨_, dd, _, by unfold PySem.W.clsIn; rw [hC] <;> rfl, hC⟩
theorem hv_super : bootBuiltins "super" = some (.type "super") := by decide +kernel
section
variable {P : Program} {w : World} {K : Frag} {mg : Str → Option Value} {base : Heap} {C f cc cda : Addr} {nm qual self txt : Str} {params : Arguments} {body rest : List Stmt} {scope : Scope} {fd : FuncData} {N ps fs : List Str} {k : Nat} {ar : Arg}
theorem callWith_kxs {M : Model} {A : Around} {E : Value → Shared → Prop} {s : Shared} {i : String} {u x : Addr} {pos : Pos} {env : PySem.Env} {e : Expr} {es : List Expr} {Q : Value → Shared → Prop}
    (h : wpAny M A (spliced (backTo pos (starEach (e :: es) env))) (fun vs s₁ => PySem.W.KxsAt i u x s₁.heap ∧ wpAny M A (PySem.call (.ref u) vs) Q E s₁) E s)
    (he : starEach (e :: es) env = (false, eval e env) :: starEach es env := by rfl) (hplain : (backTo pos (starEach es env)).any (·.1) = false := by rfl) :
    wpAny M A (callWith pos (.ref u) [] (backTo pos (starEach (e :: es) env)) []) Q E s := by
  rw [he] at h ⊢
  refine PySem.W.kxs_callWith (i := i) (x := x) (by show (false || (backTo pos (starEach es env)).any (·.1)) = false; rw [hplain]; rfl) ?_
  exact PySem.Calls.evalArgs_plain h
/-- super().__init__(..) called: the object keeps its shape -/
theorem kxs_done {X : Cx} {pins : List (Addr × Obj)} {σ : L2.St} {H : Hp} {s : Shared} {A : Around} {E : Value → Shared → Prop} {u a C : Addr} {us : List Value} {Q : Value → Shared → Prop} (T : OexC X.K C) (I : Inv X pins σ H s) (e : H a = some (exo a C none)) (hu : s.heap.get? u = some (PySem.W.kxs_mw "ValueError.__init__" a))
    (hl : us.length ≤ sizeLine) (h : ∀ s', Inv X pins σ H s' → Q .none s') : wpAny (model X.prog X.w) A (PySem.call (.ref u) us) Q E s := by
  obtain ⟨nm, q, N, bs, bm, sn, sub, ab, col, dd, k0, k1, k2, k3, k5, hC, hbm⟩ := T.cls
  obtain ⟨t1, ho⟩ := exo_at I.hok e
  have hCh := I.kIn _ _ hC
  obtain ⟨hp, g, d, t, os⟩ := s
  refine wpAny_call (codeAny_of_tree ?_)
  show wpAny _ A.in1 (callAny (.ref u) ⟨us, []⟩) _ _ _
  simp only [callAny]
  refine wpAny_bind (wpAny_load hu ?_)
  simp only [PySem.W.kxs_mw, show (Value.type "method-wrapper" == Value.type "method" || Value.type "method-wrapper" == Value.type "builtin_function_or_method" || Value.type "method-wrapper" == Value.type "method-wrapper") = true by decide, if_true]
  refine PySem.W.KFB.if_so (by decide) ?_
  refine wpAny_bind (PySem.W.check_bound_init PySem.F.excBase_ValueError.toExcCallFacts hCh ho rfl ?_)
  refine wpAny_bind (wpAny_pure (wpAny_pure ?_))
  refine ⟨plainId_quiet PySem.F.excBase_ValueError.init.plain _, codeAny_builtin PySem.F.excBase_ValueError.initEntry ?_⟩
  refine PySem.W.exc_init_tree (cls := .ref C) (t0 := t1) (dv := none) (c2 := .none) (c3 := .none) (b4 := .bool false) ho hl fun h' kp hx ht => ?_
  have J := I.write (t' := t) (x := a) (e := a) (o := exo a C none) (by rw [e]; exact True.intro) (.inl rfl) kp ⟨_, hx⟩ (exo_ok hx)
  have eu : upd H a (exo a C none) = H := by
    funext b
    by_cases hb : b = a
    · rw [hb, upd_same, e]
    · rw [upd_ne hb]
  rw [eu] at J
  exact h _ J
theorem xinit_ok {n : Nat} (XI : XIn P K C f cc cda nm qual params body scope fd) (hps : ps = self :: fs) (hlen : fs.length = n) (S : NdefX.NScope N ps ["__class__"] scope) (har : (params.posonlyargs ++ params.args).head? = some ar) (hself : ar.arg = self)
    (hmg : mg "super" = none) (hsk : scope.names.lookup ("super" : Str) = some .globalImplicit) (htop : (P.main.scope.names.lookup ("super" : Str)).isSome = false)
    {p0 p1 p2 p3 p4 p5 : Pos} {j : Nat}
    (hbody : body = .Expr (.Call (.Attribute (.Call (.Name "super" p0) [] [] p1) "__init__" p2) [.Constant (.str txt) j p3] [] p4) p5 :: rest)
    {t : TS} (hb : ∀ (A : Around) (outer : List PySem.Env) (s : Shared) (H : Hp) (E : XK), PSs (NdefX.ncx (L2N.CX P w) P w K mg base N ⟨nm, qual, params, body, scope, [("__class__", cc)], cda⟩ f A outer s H E) rest t)
    (ht : ∀ (a : Addr) (ws : List V) (H1 : Hp) (D : Ends) (σ : L2.St), σ[0]? = some (some (.ref a)) → (∀ i v, ws[i]? = some v → σ[i + 1]? = some (some v)) → ws.length = n → H1 a = none →
      (∀ d H2 σ', H2 a = some (exo a C (some d)) → H2 d = some (exd d (fs.zip ws).reverse) → H1 d = none → d ≠ a → (∀ b, b ≠ a → b ≠ d → H2 b = H1 b) → D.nx σ' H2) → t D σ (upd H1 a (exo a C none)))
    (hin : ∀ (L : Addr), interactive (PySem.W.ksEnv qual scope L f (.ref cda) cc) = false := by intro _; rfl)
    (hsw : ∀ (L : Addr), swapsWith (.Call (.Attribute (.Call (.Name "super" p0) [] [] p1) "__init__" p2) [.Constant (.str txt) j p3] [] p4) none p5.line (PySem.W.ksEnv qual scope L f (.ref cda) cc) = pure false := by intro _; rfl)
    {pl : Sem Bool} (hea : ∀ (L : Addr), eval (.Call (.Attribute (.Call (.Name "super" p0) [] [] p1) "__init__" p2) [.Constant (.str txt) j p3] [] p4) (PySem.W.ksEnv qual scope L f (.ref cda) cc) = (do
      let ov ← attributeBase (.Call (.Name "super" p0) [] [] p1) "__init__" (PySem.W.ksEnv qual scope L f (.ref cda) cc) (eval (.Call (.Name "super" p0) [] [] p1) (PySem.W.ksEnv qual scope L f (.ref cda) cc))
      standAt p2.atName
      let (g, first) ← holding [ov] (getMethod ov "__init__" pl)
      callWith p4 g first (backTo p4 (starEach [.Constant (.str txt) j p3] (PySem.W.ksEnv qual scope L f (.ref cda) cc))) []) := by intro _; rfl)
    (hst : ∀ (L : Addr), starEach [.Constant (.str txt) j p3] (PySem.W.ksEnv qual scope L f (.ref cda) cc) = [(false, eval (.Constant (.str txt) j p3) (PySem.W.ksEnv qual scope L f (.ref cda) cc))] := by intro _; rfl) :
    FnOk P w K mg base (L2N.CX P w) (k + 1) f fd ps (spX C n fs) := by
  subst hps
  obtain ⟨oc, od, dV, kV, doc, pm, an, ct, osl, rfl, lk⟩ := XI.fn
  obtain ⟨ccl, cdd, cvs, ccs, file, tf, hcode, hvs, hfile⟩ := XI.fl
  obtain ⟨cl, cld, csl, hcell⟩ := XI.cell
  obtain ⟨cdC, ddC, slC, hcls, hClk⟩ := oexC_cd XI.T
  have len : ∀ vs H Q E, spX C n fs vs H Q E → vs.length = (self :: fs).length := fun vs H Q E ⟨a, H1, ws, e, _, _, l, _⟩ => by
    rw [e, List.length_cons, List.length_cons, l, hlen]
  refine ⟨len, fun A outer s H args us vs Q E hr e0 hbi r hsp => ?_⟩
  have hl := len _ _ _ _ hsp
  obtain ⟨a, H1, ws, rfl, rfl, ha, hwl, q⟩ := hsp
  have KX : K.In s.heap := e0.mod.kin.keeps fun b o e => (e0.bs b o e).1
  have lim : s.heap.NoLimit := e0.mod.nolimit.keeps fun b o e => (e0.bs b o e).1
  refine ks_codeAny_call_defAt (binds := (self :: fs).zip us) (body := body) hr.depth (KX _ _ lk) rfl lim (PySem.W.codeRec_of KX XI.cd) rfl hbi S.nocell (fun ⟨m, _⟩ hy => S.par m (List.of_mem_zip hy).1) (fun h₁ hns kp => ?_) S.co S.gen S.kind
  have hbase : K.In base := e0.mod.kin
  have hcB : base.get? cc = some ⟨cl, cld, .cell (some (.ref C)), csl⟩ := hbase _ _ hcell
  have CA : NdefX.CellsAt [("__class__", cc)] ["__class__"] [none] s.heap (upd H1 a (exo a C none)) := by
    refine ⟨rfl, fun y c e => ?_, fun x y c e1 e2 => ?_, fun i y e => ?_⟩
    · have hc : c = cc := by
        have := PySem.mem_of_lookup e
        simpa using (Prod.mk.inj (List.mem_singleton.mp this)).2
      subst hc
      exact ⟨(e0.bs _ _ hcB).2, _, _, (e0.bs _ _ hcB).1, rfl⟩
    · have h1 := (Prod.mk.inj (List.mem_singleton.mp (PySem.mem_of_lookup e1))).1
      have h2 := (Prod.mk.inj (List.mem_singleton.mp (PySem.mem_of_lookup e2))).1
      exact h1.trans h2.symm
    · cases i with
      | zero =>
        simp only [List.getElem?_cons_zero, Option.some.injEq] at e
        subst e
        exact ⟨cc, rfl, fun v z => by simp at z⟩
      | succ i => simp at e
  have I := NdefX.inv_startN (CX := L2N.CX P w) (f := f) (E := E) (F := ⟨nm, qual, params, body, scope, [("__class__", cc)], cda⟩) (tk := s.toks + ((self :: fs).zip us).length) S hr.hd e0 hl r CA hns kp
  obtain ⟨u0, us', rfl, ru0⟩ : ∃ u0 us', us = u0 :: us' ∧ L2.RelV (.ref a) u0 := by
    cases r with
    | cons r1 r2 => exact ⟨_, _, rfl, r1⟩
  obtain rfl : u0 = Value.ref a := ru0
  have hv : ((self :: fs).zip (Value.ref a :: us')).reverse.lookup self = some (.ref a) := by
    have nd : (self :: fs).Nodup := by
      have q := S.nd.sublist (List.take_sublist ((self :: fs).length + (["__class__"] : List Str).length) N)
      rw [S.pre] at q
      exact (List.nodup_append.mp q).1
    exact NdefX.zip_look (i := 0) nd rfl rfl
  have ea : (upd H1 a (exo a C none)) a = some (exo a C none) := upd_same
  subst hbody
  refine ks_wpAt_execs_cons (ks_wpAt_Expr_any (ks_wpAt_MethodCall (pl := pl) ?_ (hea _)) (hin _) (hsw _))
  refine ks_wpAt_super_base (f := f) (cc := cda) (ar := ar) hsk (S.frk _ List.mem_cons_self) rfl rfl (I.kIn _ _ lk) rfl har rfl (I.kIn _ _ hcode) rfl hvs hfile htop ?_
  obtain ⟨mb, hmb, hmb2⟩ := I.mod.blt
  refine PySem.W.ks_loadName_global S.kind hsk (PySem.Calls.loadGlobal_builtin (I.mod.glob.keeps I.bk) hmg (hmb.keeps I.bk) ((hmb2 "super" (by decide)).trans hv_super) ⟨rfl, ?_⟩)
  refine wpAny_loadName_free S.kind (S.frk _ List.mem_cons_self) rfl ⟨_, I.kIn _ _ hcell, rfl⟩ ?_
  refine wpAny_loadName_local S.kind (by rw [hself]; exact S.par _ List.mem_cons_self) hns (by rw [hself]; exact hv) ?_
  refine ks_wpAny_isType_cls (I.kIn _ _ hClk) rfl ⟨rfl, ?_⟩
  obtain ⟨t1, hat⟩ := exo_at I.hok ea
  refine ks_wpAny_call_super (I.kIn _ _ hClk) rfl hat rfl (fun c z => nomatch z) (PySem.W.looks_mroIn I.kIn XI.me) fun h2 hso kp2 => ?_
  have I2 := I.kept (t' := s.toks + ((self :: fs).zip (Value.ref a :: us')).length) kp2
  have hmr : PySem.W.Looks (model P w) h2 (mroOf (.ref C)) cdC.mro := fun A Q E s k q => wpAny_bind ((PySem.W.looks_clsIn I2.kIn hcls) A _ E s k (wpAny_pure q))
  have hsup := XI.sup
  unfold PySem.W.ks_superIn at hsup
  rw [hcls] at hsup
  have hat2 := kp2 _ _ hat
  have hIA : PySem.W.InstAt h2 a { cls := .ref C, dict := none, data := .fields #[.ref t1, .none, .none, .none, .bool false, .none] } C none := ⟨hat2, rfl, rfl, trivial⟩
  refine PySem.W.kxs_getMethod PySem.W.kxs_ValueError hso (PySem.W.looks_opaque I2.kIn XI.thi) hmr rfl I2.kIn hsup (hIA.type.andThen (PySem.W.looks_subIn I2.kIn XI.ve)) (PySem.W.ks_ne I2.kIn hIA hcls) (by decide) ?_
  have kp3 : ∀ b o, h2.get? b = some o → (h2.push (PySem.W.kxs_mw "ValueError.__init__" a)).get? b = some o := fun b o e => Heap.get?_push_of_some _ e
  have hu : (h2.push (PySem.W.kxs_mw "ValueError.__init__" a)).get? h2.objs.size = some (PySem.W.kxs_mw "ValueError.__init__" a) := Heap.get?_push_size _ rfl
  have I3 := I2.kept (t' := s.toks + ((self :: fs).zip (Value.ref a :: us')).length + 1) kp3
  have I4 := I3.pins_of (pins' := [(h2.objs.size, PySem.W.kxs_mw "ValueError.__init__" a)]) fun p hp => by
    obtain rfl := List.mem_singleton.mp hp
    exact ⟨hu, I2.hok.fresh (Nat.le_refl _), Nat.ne_of_gt I2.lt, I2.nofs (Nat.le_refl _), fun v z => nomatch z⟩
  refine callWith_kxs (i := "ValueError.__init__") (u := h2.objs.size) (x := a) ?_ (hst _) rfl
  have ha1 := (pa_cons (pe_str (x := txt) (j := j) (pos := p3)) pa_nil (hst s.heap.objs.size)).run p4 _ _ _ _ (fun vs H2 => vs.length ≤ sizeLine ∧ H2 = upd H1 a (exo a C none)) I4 ⟨by rw [sizeLine_eq]; simp, rfl⟩
  refine wpAny_mono ha1 (fun us2 s2 ⟨vs, H2, I5, r5, hl5, e5⟩ => ?_) fun e s' z => z
  subst e5
  have hu5 := (I5.pin (h2.objs.size, PySem.W.kxs_mw "ValueError.__init__" a) (List.mem_append_right _ List.mem_cons_self)).1
  refine ⟨hu5, ?_⟩
  refine kxs_done XI.T I5 ea hu5 (by rw [← r5.length]; exact hl5) fun s' I6 => ?_
  refine PySem.wpAt_of_wpAny ?_
  have I' := I6.unpinned (pins := []) 
  refine wpAny_mono ((hb A outer s (upd H1 a (exo a C none)) E).run [] _ _ _ { nx := fun _ H' => Q .non H', rt := fun _ _ => False } I' (ht a ws H1 _ _ rfl (fun i v hi => ?_) hwl ha fun d H2 σ' k1 k2 k3 k4 k5 => q d H2 k1 k2 k3 k4 k5)) (fun fl s' hs => ?_) fun e s' hs => hs
  · unfold NdefX.startF
    have hi2 := (List.getElem?_eq_some_iff.mp hi).1
    rw [List.getElem?_append_left (by simpa using hi2)]
    simp [hi]
  · cases fl with
    | next =>
      obtain ⟨σ', H', J, q⟩ := hs
      exact ⟨.non, H', J.os, J.bare, J.base, J.hok, rfl, q⟩
    | ret u =>
      obtain ⟨_, _, _, _, _, q⟩ := hs
      exact q.elim
    | brk =>
      obtain ⟨_, _, _, q⟩ := hs
      exact False.elim q
    | cont =>
      obtain ⟨_, _, _, q⟩ := hs
      exact False.elim q
end
section
variable {X : Cx} {CX : CXT} {x : Str} {C fI : Addr} {k : Nat} {fd : FuncData} {ps : List Str} {sp : Sp} {e : Expr} {es : List Expr} {ta : TA} {p pos : Pos}
/-- C(e, ..) makes an error that came out of nothing -/
theorem pmkN (T : OexC X.K C) (iC : PySem.W.findIn X.K (.ref C) "__init__" = some (some (.ref fI))) (tI : PySem.W.typeIn X.K (.ref fI) = some (.type "function"))
    (F1 : FnOk X.prog X.w X.K X.mg X.base CX k fI fd ps sp) (hr : Room (k + 1) X.A) (hb : Binds X.K fd ps []) (hx : Passes CX X (fun _ _ _ => False)) (hg : Gl X x) (hm : X.mg x = some (.ref C)) (ha : PA X (e :: es) ta)
    (hdb : (x == ("__debug__" : Str)) = false) (he : starEach (e :: es) X.env = (false, eval e X.env) :: starEach es X.env) (hpl : (backTo pos (starEach es X.env)).any (·.1) = false) :
    L2N.PMk X (.Call (.Name x p) (e :: es) [] pos) (tMkO C sp [] ta) := by
  intro pins s0 σ H Q I h
  have key : ∀ (us : List Value) (s : Shared), (∃ (vs : List V) (H1 : Hp), Inv X pins σ H1 s ∧ Vals vs us ∧ vs.length ≤ 1000 ∧ ∀ a, H1 a = none → sp (.ref a :: (vs ++ [])) (upd H1 a (exo a C none))
      (fun v H2 => v = .non ∧ ∃ (d : Addr) (fs : List (Str × V)), H2 a = some (exo a C (some d)) ∧ H2 d = some (exd d fs) ∧ H1 d = none ∧ Q (.ref C) (some d) (upd (del H2 a) d (.xd fs))) (fun _ _ _ => False)) →
      wpAny (model X.prog X.w) X.A (PySem.call (.ref C) us) (L2N.MkP X pins σ Q) X.xe s := by
    rintro us ⟨hp, g, dr, tk, os⟩ ⟨vs, H1, I1, r1, hz, q1⟩
    obtain ⟨nm, q, N, bs, bm, sn, sub, ab, col, dd, k0, k1, k2, k3, k5, hC, hbm⟩ := T.cls
    have hus : us.length ≤ sizeLine := by
      rw [← Paired.length r1, sizeLine_eq]
      omega
    have hsz : hp.objs.size ≤ hp.objs.size + 1 := Nat.le_add_right _ _
    have hq := q1 _ (I1.hok.fresh hsz)
    rw [List.append_nil] at hq
    have kk : ∀ b o, hp.get? b = some o → ((hp.push (PySem.W.kdv_tup us)).push (PySem.HandSPX.excO C hp.objs.size)).get? b = some o := fun b o z => Heap.get?_push_of_some _ (Heap.get?_push_of_some _ z)
    have new : ObjOk X.prog X.w (upd H1 (hp.objs.size + 1) (exo (hp.objs.size + 1) C none)) ((hp.push (PySem.W.kdv_tup us)).push (PySem.HandSPX.excO C hp.objs.size)) (hp.objs.size + 1) (exo (hp.objs.size + 1) C none) := exo_ok (t1 := hp.objs.size) (by heap_get)
    have I2 : Inv X pins σ _ ⟨_, g, dr, tk, os⟩ := I1.laid (t' := tk) kk hsz new
    have r2 : Vals (V.ref (hp.objs.size + 1) :: vs) (Value.ref (hp.objs.size + 1) :: us) := .cons rfl r1
    have hl2 := r2.length.symm.trans (F1.len _ _ _ _ hq)
    have b2 := hb _ (Value.ref (hp.objs.size + 1) :: us) I2.kIn (by rw [List.append_nil]; exact hl2)
    rw [List.append_nil] at b2
    have run := F1.run (X.A.under (.builtin "type.__call__" ⟨.ref C :: us, []⟩)) X.stack _ _ ⟨_, []⟩ _ _ _ _ (hr.make C us []) (I2.env0.make C us []) b2 r2 hq
    refine wpAny_call (PySem.HandSPX.call_own PySem.F.excBase_ValueError (fun Y => PySem.HandSPX.refsVE_contains Y bm hbm) (I1.kIn _ _ hC) (PySem.W.looks_findIn I1.kIn iC) (fun self => PySem.W.bind_fn I1.kIn self tI) hus (codeAny_mono run ?_))
    intro r s' hq'
    match r, hq' with
    | .error er, z => exact hx pins σ _ _ er s' I2 z
    | .ok (.ret u), z =>
      obtain ⟨v, H2, os2, bare2, un2, hok2, rv, ev, d, fs, ea, ed, hd1, q2⟩ := z
      subst ev
      obtain ⟨h2, g2, d2, t2, os'⟩ := s'
      obtain ⟨t0, G, J, kG, ge, hoe, na⟩ := mk_end0 (d2 := d2) (t2 := t2) I1 hsz kk un2 hok2 os2 bare2 ea ed hd1
      refine ⟨rv, ?_⟩
      exact ⟨_, _, _, ⟨G, g2, d2, t2, os'⟩, _, _, some d, rfl, J, kG, ge, hoe, ⟨rfl, rfl, fun ws hv => by cases hv <;> rfl⟩, rfl, rfl, na, rfl, bare2, raises_own T.exC T.tyC, q2⟩
    | .ok .next, z => exact False.elim z
    | .ok .brk, z => exact False.elim z
    | .ok .cont, z => exact False.elim z
  refine wpAny_Call_Name_kw (ld_glob I hg hm ?_ hdb)
  refine PySem.W.callWith_K (h₀ := X.base) I.ok.mod.kin T.kC (thn (ha.run pos pins s0 σ H _ I h) fun us s1 hh => ?_) he hpl
  obtain ⟨vs, H1, I1, r1, z⟩ := hh
  exact ⟨I1.kIn, key us s1 ⟨vs, H1, I1, r1, z⟩⟩
end
end Py
/-! Errors of own classes: what the head tells of them, raise. -/
namespace Py
open PySem L2
open He (Fa DefD Tab FnW)
/-! ### facts -/
theorem oexB_ok {c : String} {K : Frag} (h : oexB c K = true) : ∃ nm q N bs bm sn sub ab col dd k0 k1 k2 k3 k5, K.lookup (ca K c) = some (excClassObj nm q (ca K c) N bs bm true sn sub ab col dd k0 k1 k2 k3 k5 "ValueError.__new__") ∧ PySem.HandSPX.refsVE bm = true := by
  unfold oexB at h
  split at h
  · rename_i dd cd sl ho
    split at h
    · rename_i C' bm k0 k1 k2 k3 n k5 hm hs
      simp only [Bool.and_eq_true, decide_eq_true_eq, Bool.not_eq_true'] at h
      obtain ⟨h1, h2, h3, h4, h5⟩ := h
      obtain ⟨nm, bs, mro, ns, qn, hd, sn, sub, ab, col, del⟩ := cd
      dsimp only at hm h3 h4
      subst hm h3 h4 h1 h2
      have hsl : sl = #[k0, k1, k2, k3, some (.builtin "ValueError.__new__"), k5] := by
        obtain ⟨l⟩ := sl
        simp only at hs
        rw [hs]
      subst hsl
      exact ⟨nm, qn, ns, bs, bm, sn, sub, ab, col, dd, k0, k1, k2, k3, k5, ho, h5⟩
    · cases h
  · cases h
structure ErrF (P : Program) (K : Frag) (c : String) (nm qual : Str) (params : Arguments) (body : List Stmt) (scope : Scope) (fs : List String) : Prop where
  xin : ∃ cc cda fd, XIn P K (ca K c) (He.ma K (ca K c) "__init__") cc cda nm qual params body scope fd ∧ ∃ kV doc pm an ct, fd = PySem.W.ksFn nm qual params body scope .none kV doc pm an (.ref cda) ct cc
  ini : PySem.W.findIn K (.ref (ca K c)) "__init__" = some (some (.ref (He.ma K (ca K c) "__init__")))
  typ : PySem.W.typeIn K (.ref (He.ma K (ca K c) "__init__")) = some (.type "function")
  no : ∀ f ∈ fs, PySem.W.findIn K (.ref (ca K c)) (Str.ofString f) = some none
theorem err_f {P : Program} {K : Frag} {c : String} {d : DefD} {file : Str} {fs : List String} (hat : d.at_ = (Str.ofString c, some ("__init__" : Str))) (hf : ((P.main.file : Str) == file) = true) (e : fnWx K d.at_ = d.val) (h : errB file c d.qual fs K = true) : ErrF P K c d.name d.qual d.params d.body d.scope fs := by
  unfold errB at h
  simp only [Bool.and_eq_true, decide_eq_true_eq, List.all_eq_true] at h
  obtain ⟨hc, ho, h1, h2, h3, h4, h5, h6, h7, h8, h9, h10, h11⟩ := h
  have hfa : He.fAd K d.at_ = He.ma K (ca K c) "__init__" := by rw [hat] <;> rfl
  unfold cloB at hc
  unfold fnWx at e
  rw [hfa] at e
  cases q : K.lookup (He.ma K (ca K c) "__init__") with
  | none =>
    rw [q] at hc
    cases hc
  | some o =>
    obtain ⟨oc, od, dt, osl⟩ := o
    rw [q] at hc e
    cases dt with
    | func fd =>
      obtain ⟨n1, n2, n3, n4, n5, n6, n7, n8, n9, n10, n11, n12, n13, n14, n15⟩ := fd
      have e2 : (some (n1, n2, n3, n4, n5, n6, [], n15) : FnW) = some (d.name, d.qual, d.params, .stmts d.body, d.scope, mainGlobals, [], builtinsNs) := e
      simp only [Option.some.injEq, Prod.mk.injEq, true_and] at e2
      obtain ⟨g1, g2, g3, g4, g5, g6, g8⟩ := e2
      subst g1 g2 g3 g4 g5 g6 g8
      dsimp only at hc
      split at hc
      · rename_i cda y cc
        simp only [Bool.and_eq_true, decide_eq_true_eq] at hc
        obtain ⟨c1, c2, c3, c4, c5⟩ := hc
        subst c1 c2
        split at c4
        · rename_i cl cld D csl hcell
          have hD : D = ca K c := of_decide_eq_true c4
          subst hD
          split at c5
          · rename_i ccl cdd vs ccs hcode
            split at c5
            · rename_i z tf hz
              have hz2 : z = file := of_decide_eq_true c5
              subst hz2
              exact ⟨⟨cc, cda, _, ⟨⟨oc, od, _, n9, n10, n11, n12, n14, osl, rfl, q⟩, c3, ⟨ccl, cdd, vs, ccs, z, tf, hcode, hz, hf⟩, ⟨cl, cld, csl, hcell⟩, ⟨oexB_ok ho, h1, h2, h3, h4⟩, h5, h6, h7, h8⟩, n9, n10, n11, n12, n14, rfl⟩, h9, h10, h11⟩
            · cases c5
          · cases c5
        · cases c4
      · cases hc
    | _ => cases hc
/-- the name c makes an error that keeps what it is given under the names ns -/
structure ErrOk (P : Program) (w : World) (K : Frag) (mg : Str → Option Value) (base : Heap) (k : Nat) (c : String) (ns : List String) : Prop where
  ex : ∃ f fd ps, mg (Str.ofString c) = some (.ref (ca K c)) ∧ OexC K (ca K c) ∧ PySem.W.findIn K (.ref (ca K c)) "__init__" = some (some (.ref f)) ∧ PySem.W.typeIn K (.ref f) = some (.type "function") ∧ Binds K fd ps [] ∧
    FnOk P w K mg base (L2N.CX P w) k f fd ps (spX (ca K c) ns.length (ns.map Str.ofString))
/-! ### its fields, laid one behind another -/
section
variable {K : Frag} {f g : Str} {C : Addr}
theorem fld_one (T : OexC K C) (hno : PySem.W.findIn K (.ref C) f = some none) {a : Addr} {ws : List V} {H1 : Hp} {D : Ends} {σ : L2.St} (h0 : σ[0]? = some (some (.ref a))) (h1 : ∀ i v, ws[i]? = some v → σ[i + 1]? = some (some v)) (hl : ws.length = 1) (hn : H1 a = none)
    (q : ∀ d H2 σ', H2 a = some (exo a C (some d)) → H2 d = some (exd d (([f] : List Str).zip ws).reverse) → H1 d = none → d ≠ a → (∀ b, b ≠ a → b ≠ d → H2 b = H1 b) → D.nx σ' H2) : tOst K f (tVar 0) (tVar 1) D σ (upd H1 a (exo a C none)) := by
  match ws, hl with
  | [v], _ =>
    refine ⟨v, h1 0 v rfl, _, h0, a, C, rfl, T, hno, .inl ⟨upd_same, fun dx hdx hne => q dx _ σ upd_same ?_ ?_ hne fun b hb hd => ?_⟩⟩
    · rw [upd_ne hne, upd_same]
      rfl
    · rw [upd_ne hne] at hdx
      exact hdx
    · rw [upd_ne hb, upd_ne hd, upd_ne hb]
theorem fld_two (T : OexC K C) (hno : PySem.W.findIn K (.ref C) f = some none) (hno2 : PySem.W.findIn K (.ref C) g = some none) {a : Addr} {ws : List V} {H1 : Hp} {D : Ends} {σ : L2.St} (h0 : σ[0]? = some (some (.ref a))) (h1 : ∀ i v, ws[i]? = some v → σ[i + 1]? = some (some v)) (hl : ws.length = 2) (hn : H1 a = none)
    (q : ∀ d H2 σ', H2 a = some (exo a C (some d)) → H2 d = some (exd d (([f, g] : List Str).zip ws).reverse) → H1 d = none → d ≠ a → (∀ b, b ≠ a → b ≠ d → H2 b = H1 b) → D.nx σ' H2) : tSeq (tOst K f (tVar 0) (tVar 1)) (tOst K g (tVar 0) (tVar 2)) D σ (upd H1 a (exo a C none)) := by
  match ws, hl with
  | [v, w], _ =>
    refine ⟨v, h1 0 v rfl, _, h0, a, C, rfl, T, hno, .inl ⟨upd_same, fun dx hdx hne => ?_⟩⟩
    have hdx2 : H1 dx = none := by
      rw [upd_ne hne] at hdx
      exact hdx
    refine ⟨w, h1 1 w rfl, _, h0, a, C, rfl, T, hno2, .inr ⟨dx, [(f, v)], upd_same, ?_, by simp, q dx _ σ ?_ ?_ hdx2 hne fun b hb hd => ?_⟩⟩
    · rw [upd_ne hne, upd_same]
    · rw [upd_ne hne.symm, upd_same]
    · rw [upd_same]
      rfl
    · rw [upd_ne hd, upd_ne hb, upd_ne hd, upd_ne hb]
end
theorem ErrF.T {P : Program} {K : Frag} {c : String} {nm qual : Str} {params : Arguments} {body : List Stmt} {scope : Scope} {fs : List String} (F : ErrF P K c nm qual params body scope fs) : OexC K (ca K c) := by
  obtain ⟨⟨cc, cda, fd, XI, _⟩, _⟩ := F
  exact XI.T
/-! ### raise -/
theorem RepF.append {K : Frag} {A : AS} {H : Hp} : ∀ {fs gs : List (String × D)} {us vs : List (Str × V)}, RepF K A H fs us → RepF K A H gs vs → RepF K A H (fs ++ gs) (us ++ vs)
  | [], gs, us, vs, h, k => by
    simp only [RepF] at h
    subst h
    exact k
  | (n, d) :: fs, gs, us, vs, h, k => by
    simp only [RepF] at h
    obtain ⟨v, r, rfl, h1, h2⟩ := h
    simp only [List.cons_append, RepF]
    exact ⟨v, r ++ vs, rfl, h1, RepF.append h2 k⟩
theorem repF_zip {K : Frag} {A : AS} {H : Hp} : ∀ {ns : List String} {ds : List D} {vs : List V}, RepL K A H ds vs → RepF K A H (ns.zip ds).reverse ((ns.map Str.ofString).zip vs).reverse
  | [], ds, vs, h => by simp [RepF]
  | n :: ns, [], vs, h => by
    simp only [RepL] at h
    subst h
    simp [RepF]
  | n :: ns, d :: ds, vs, h => by
    simp only [RepL] at h
    obtain ⟨v, r, rfl, h1, h2⟩ := h
    simp only [List.zip_cons_cons, List.map_cons, List.reverse_cons]
    refine RepF.append (repF_zip h2) ?_
    simp only [RepF]
    exact ⟨v, [], rfl, h1, rfl⟩
section
variable {fr : Bool} {X : Cx} {W : WX} {ow oN oB : Ow} {e : Expr} {es : List Expr} {am : AM} {pos p rpos : Pos} {k j : Nat} {c : String} {ns : List String}
theorem s_raise (T : Ctx X W j) (C : ErrOk X.prog X.w X.K X.mg X.base k c ns) (hk : k + 1 ≤ j) (hg : Gl X (Str.ofString c)) (ha : PA X (e :: es) (aE X.K W ow am)) (hz : ns.length ≤ 1000 := by decide)
    (hdb : (Str.ofString c == ("__debug__" : Str)) = false := by decide) (he : starEach (e :: es) X.env = (false, eval e X.env) :: starEach es X.env := by rfl) (hpl : (backTo pos (starEach es X.env)).any (·.1) = false := by rfl) :
    PS X (.Raise (some (.Call (.Name (Str.ofString c) p) (e :: es) [] pos)) none rpos) (tS3 fr X.K W ow oN oB (rais c ns am)) := by
  obtain ⟨f, fd, ps, hm, TO, hi, ht, hb, F⟩ := C.ex
  refine PS.of (L2N.ps_raise T.calm T.tk (pmkN TO hi ht F (T.hr.mono hk) hb passLN hg hm ha hdb he hpl)) fun D σ H ⟨A, H0, O, en, R, q⟩ => ?_
  refine ⟨A, H0, O, en, R, ((Out.bind (show Out (am en >>= fun ds => if ds.length = ns.length then (Res.exc c (ns.zip ds).reverse : Res Fl) else .stuck) _ _ from q)).se R).good fun ds q1 vs H1 s1 r1 => ?_⟩
  have r2 := paired_rep r1
  by_cases hl : ds.length = ns.length
  · rw [if_pos hl] at q1
    refine ⟨by rw [← r2.length, hl]; exact hz, fun a hn => ⟨a, H1, vs ++ [], by simp, rfl, hn, by simp [← r2.length, hl], fun d H2 k1 k2 k3 k4 k5 => ⟨rfl, d, _, k1, k2, k3, ?_⟩⟩⟩
    have sm : Same H1 (upd (del H2 a) d (.xd ((ns.map Str.ofString).zip (vs ++ [])).reverse)) := fun b o eb => by
      have hba : b ≠ a := ne_of_none eb hn
      have hbd : b ≠ d := ne_of_none eb k3
      rw [upd_ne hbd, del_ne hba, k5 b hba hbd]
      exact eb
    refine (show badS X.K W A H0 c (ns.zip ds).reverse from q1) σ d _ _ (R.same.trans (s1.trans sm)) upd_same ?_
    have r3 : RepL X.K A (upd (del H2 a) d (.xd ((ns.map Str.ofString).zip (vs ++ [])).reverse)) ds (vs ++ []) := by
      have r4 : RepL X.K A _ ds vs := RepL.move (Mv.less (A := AO A O) (A' := A) fun b hb => Or.inl hb) ds vs (RepL.move (Mv.same sm) ds vs r2)
      simpa using r4
    exact repF_zip r3
  · rw [if_neg hl] at q1
    exact q1.elim
end
end Py
/-! Within an except suite, and within what is called there. -/
namespace Py
open PySem L2 L2H
structure CtxH (X : Cx) (W : WX) (k : Nat) : Prop where
  tk : L2N.Takes X W
  po : PassesOwn (model X.prog X.w) X.A X.env X.xe
  hr : RoomH k X.A
  hot : HotC X
  nd : X.N.Nodup
theorem CtxH.eq {X : Cx} {W : WX} {k : Nat} (T : CtxH X W k) : OpR X (compareOp .Eq) (r2 X.K oeq) := y_eq (by have := T.hr.un; omega)
theorem CtxH.ne {X : Cx} {W : WX} {k : Nat} (T : CtxH X W k) : OpR X (compareOp .NotEq) (r2 X.K one) := y_ne (by have := T.hr.un; omega)
/-! ### loops over a range -/
/-! ### calls -/
theorem FnH.mono {P : Program} {w : World} {K : Frag} {mg : Str → Option Value} {base : Heap} {CX : CXT} {j k : Nat} {f : Addr} {fd : FuncData} {ps : List Str} {sp : Sp} (F : FnH P w K mg base CX j f fd ps sp) (h : j ≤ k) : FnH P w K mg base CX k f fd ps sp :=
  ⟨F.len, fun A outer s H args us vs Q E p hr => F.run A outer s H args us vs Q E p (hr.mono h)⟩
end Py
/-! try .. except X as e, and what is asked of e. -/
namespace Py
open PySem L2 L2H
/-! ### facts -/
def xcV (K : Frag) (t : String) : V := if t = "ValueError" then .ty "ValueError" else .ref (ca K t)
/-! ### the body: an error leaves the names as they are -/
/-! ### try -/
end Py
/-! What a suite asks of the caught error: isinstance, fields. -/
namespace Py
open PySem L2 L2H
open He (Fa DefD Tab FnW)
/-- a tuple of classes as written, by names -/
inductive XcL (X : Cx) : List Expr → List String → TA → Prop
  | nil : XcL X [] [] tNil
  | cons {e : Expr} {es : List Expr} {t : String} {ts : List String} {r : TA} (h : PE X e (tC (xcV X.K t))) (k : XcL X es ts r) (hs : starEach (e :: es) X.env = (false, eval e X.env) :: starEach es X.env) : XcL X (e :: es) (t :: ts) (tCons (tC (xcV X.K t)) r)
theorem XcL.pa {X : Cx} {es : List Expr} {ts : List String} {r : TA} (h : XcL X es ts r) : PA X es r := by
  induction h with
  | nil => exact pa_nil
  | cons h _ hs ih => exact pa_cons h ih hs
theorem XcL.run {X : Cx} {es : List Expr} {ts : List String} {r : TA} (h : XcL X es ts r) : ∀ {σ : L2.St} {H : Hp} {Q : List V → Hp → Prop}, Q (ts.map (xcV X.K)) H → r σ H Q := by
  induction h with
  | nil => exact fun q => q
  | cons h _ hs ih => exact fun q => ih (Q := fun xs H2 => _) q
/-! ### an error's __init__, by the head -/
section
variable {P : Program} {w : World} {K : Frag} {mg : Str → Option Value} {base : Heap} {nm qual self txt : Str} {params : Arguments} {body rest : List Stmt} {scope : Scope} {N ps : List Str} {k : Nat} {ar : Arg} {c : String} {ns : List String}
theorem err_ok (F : ErrF P K c nm qual params body scope ns) (g : mg (Str.ofString c) = some (.ref (ca K c))) (hmg : mg "super" = none) (htop : (P.main.scope.names.lookup ("super" : Str)).isSome = false) (hps : ps = self :: ns.map Str.ofString) (S : NdefX.NScope N ps ["__class__"] scope)
    (har : (params.posonlyargs ++ params.args).head? = some ar) (hself : ar.arg = self) (hsk : scope.names.lookup ("super" : Str) = some .globalImplicit) {p0 p1 p2 p3 p4 p5 : Pos} {j : Nat}
    (hbody : body = .Expr (.Call (.Attribute (.Call (.Name "super" p0) [] [] p1) "__init__" p2) [.Constant (.str txt) j p3] [] p4) p5 :: rest)
    (hbind : ∀ (kV doc pm : Value) (an : Option Addr) (cdv ct : Value) (cc : Addr) (us : List Value), us.length = ps.length → bindArgs (PySem.W.ksFn nm qual params body scope .none kV doc pm an cdv ct cc) ⟨us, []⟩ = pure (ps.zip us))
    {t : TS} (hb : ∀ (f cc cda : Addr) (A : Around) (outer : List PySem.Env) (s : Shared) (H : Hp) (E : XK), PSs (NdefX.ncx (L2N.CX P w) P w K mg base N ⟨nm, qual, params, body, scope, [("__class__", cc)], cda⟩ f A outer s H E) rest t)
    (ht : ∀ (a : Addr) (ws : List V) (H1 : Hp) (Dn : Ends) (σ : L2.St), σ[0]? = some (some (.ref a)) → (∀ i v, ws[i]? = some v → σ[i + 1]? = some (some v)) → ws.length = ns.length → H1 a = none →
      (∀ d H2 σ', H2 a = some (exo a (ca K c) (some d)) → H2 d = some (exd d ((ns.map Str.ofString).zip ws).reverse) → H1 d = none → d ≠ a → (∀ b, b ≠ a → b ≠ d → H2 b = H1 b) → Dn.nx σ' H2) → t Dn σ (upd H1 a (exo a (ca K c) none)))
    (hin : ∀ (L f cda cc : Addr), interactive (PySem.W.ksEnv qual scope L f (.ref cda) cc) = false)
    (hsw : ∀ (L f cda cc : Addr), swapsWith (.Call (.Attribute (.Call (.Name "super" p0) [] [] p1) "__init__" p2) [.Constant (.str txt) j p3] [] p4) none p5.line (PySem.W.ksEnv qual scope L f (.ref cda) cc) = pure false)
    {pl : Addr → Addr → Addr → Sem Bool} (hea : ∀ (L f cda cc : Addr), eval (.Call (.Attribute (.Call (.Name "super" p0) [] [] p1) "__init__" p2) [.Constant (.str txt) j p3] [] p4) (PySem.W.ksEnv qual scope L f (.ref cda) cc) = (do
      let ov ← attributeBase (.Call (.Name "super" p0) [] [] p1) "__init__" (PySem.W.ksEnv qual scope L f (.ref cda) cc) (eval (.Call (.Name "super" p0) [] [] p1) (PySem.W.ksEnv qual scope L f (.ref cda) cc))
      standAt p2.atName
      let (g, first) ← holding [ov] (getMethod ov "__init__" (pl f cda cc))
      callWith p4 g first (backTo p4 (starEach [.Constant (.str txt) j p3] (PySem.W.ksEnv qual scope L f (.ref cda) cc))) []))
    (hst : ∀ (L f cda cc : Addr), starEach [.Constant (.str txt) j p3] (PySem.W.ksEnv qual scope L f (.ref cda) cc) = [(false, eval (.Constant (.str txt) j p3) (PySem.W.ksEnv qual scope L f (.ref cda) cc))]) :
    ErrOk P w K mg base (k + 1) c ns := by
  obtain ⟨⟨cc, cda, fd, XI, kV, doc, pm, an, ct, hfd⟩, hini, htyp, hno⟩ := F
  refine ⟨_, fd, ps, g, XI.T, hini, htyp, ?_, ?_⟩
  · rw [hfd]
    exact .all (hbind kV doc pm an _ ct cc)
  · exact xinit_ok XI hps (by simp) S har hself hmg hsk htop hbody (hb _ cc cda) ht (fun L => hin L _ _ _) (fun L => hsw L _ _ _) (fun L => hea L _ _ _) (fun L => hst L _ _ _)
end
/-! ### the hook, the facts -/
section
open He
theorem obsYG_eq {n : Nat} {more : Frag → Bool} {fa : List Fa} {fn xf : List DefD} {ts : List Tab} {g : Addr → Option Obj} {s : Shared} (h : ∀ a, g a = s.heap.get? a) : obsYG n more fa fn xf ts g = (hookY n more fa fn xf ts).obs s := by
  have e : g = s.heap.get? := funext h
  rw [e] <;> rfl
end
structure FactsY (fa : List Fa) (fn xf : List DefD) (ts : List Tab) (ms : List (Frag → Bool)) (file : Str) (P : Program) (w : World) (K : Frag) (mg : Str → Option Value) : Prop extends Facts fa fn ts ms w K mg where
  x : (xf.map fun d => fnWx K d.at_) = xf.map DefD.val
  pf : ((P.main.file : Str) == file) = true
  ps : (P.main.scope.names.lookup ("super" : Str)).isSome = false
section
variable {fa : List Fa} {fn xf : List DefD} {ts : List Tab} {ms : List (Frag → Bool)} {file : Str} {P : Program} {w : World} {K : Frag} {mg : Str → Option Value}
theorem FactsY.err (Y : FactsY fa fn xf ts ms file P w K mg) (i j : Nat) {d : DefD} {c : String} {fs : List String} (h : xf[i]? = some d := by rfl) (hat : d.at_ = (Str.ofString c, some ("__init__" : Str)) := by rfl) (hm : ms[j]? = some (errB file c d.qual fs) := by rfl) : ErrF P K c d.name d.qual d.params d.body d.scope fs := by
  refine err_f hat Y.pf ?_ (Y.toFacts.more j hm)
  have e2 : (xf.map fun d => fnWx K d.at_)[i]? = (xf.map DefD.val)[i]? := by rw [Y.x]
  rw [List.getElem?_map, List.getElem?_map, h] at e2
  exact Option.some.inj e2
end
end Py
/-! A tuple so many times. -/
namespace Py
open PySem L2 PySem.Spec PyProof.Rows
theorem tmul_same (l : Addr) (items : Array Value) (n : Nat) (dd : Option Addr) (sl : Array (Option Value)) (x : Int) (u : Tok) (c0 : (decide (x < -(2 ^ 63)) || decide (x ≥ 2 ^ 63)) = false) (c1 : (items.isEmpty || x == 1) = true) :
    Meets (Builtin.«tuple.__mul__» ⟨[.ref l, .int x u], []⟩) (fun _ R s => s.heap.get? l = some { cls := .type "tuple", dict := dd, data := .seq items n, slots := sl } ∧ R (.ok (.ret (Value.ref l))) s) :=
  .of_wp fun prog w A R s h => by
    obtain ⟨hp, g, d, tk, os⟩ := s
    obtain ⟨hl, h⟩ := h
    have f1 := AutoSeq1.idx_int
    wp_walk using wpAny_loadPart' hl
    refine wpAny_ite_false (decide_eq_false (by rw [c0]; exact Bool.false_ne_true)) ?_
    wp_walk using wpAny_loadPart' hl
    exact ⟨_, rfl, h⟩
theorem tmul_none (l : Addr) (items : Array Value) (n : Nat) (dd : Option Addr) (sl : Array (Option Value)) (x : Int) (u : Tok) (c0 : (decide (x < -(2 ^ 63)) || decide (x ≥ 2 ^ 63)) = false) (c1 : (items.isEmpty || x == 1) = false) (c2 : (decide (x ≤ 0) || items.isEmpty) = true) :
    Meets (Builtin.«tuple.__mul__» ⟨[.ref l, .int x u], []⟩) (fun _ R s => s.heap.get? l = some { cls := .type "tuple", dict := dd, data := .seq items n, slots := sl } ∧ R (.ok (.ret (Value.ref s.heap.objs.size))) { s with heap := s.heap.push { cls := .type "tuple", data := .seq #[] } }) :=
  .of_wp fun prog w A R s h => by
    obtain ⟨hp, g, d, tk, os⟩ := s
    obtain ⟨hl, h⟩ := h
    have f1 := AutoSeq1.idx_int
    wp_walk using wpAny_loadPart' hl
    refine wpAny_ite_false (decide_eq_false (by rw [c0]; exact Bool.false_ne_true)) ?_
    wp_walk using wpAny_loadPart' hl
    exact ⟨_, rfl, h⟩
section
variable {X : Cx}
theorem y_trep : OpR X (binaryOp .Mult) (r2 X.K otrep) := by
  intro pins s σ H x y v u Q I rx ry h
  obtain ⟨A, d1, d2, d, h1, h2, hA, e, q⟩ := h
  cases d1 with
  | tup xs =>
    cases d2 with
    | int k =>
      simp only [otrep] at e
      split at e
      · rename_i hk
        cases e
        have hy : y = .int k := rep_int h2
        subst hy
        obtain ⟨l, vs, rfl, hT, r⟩ := (by simpa only [RepW, Rep] using h1 : ∃ a vs, x = .ref a ∧ SqT X.K H a vs ∧ RepL X.K A H xs vs)
        have hlen := r.length
        by_cases hgen : vs ≠ [] ∧ 2 ≤ k
        · refine op_repT pins s σ H _ _ v u Q I rx ry ⟨l, k, vs, rfl, rfl, hT, hgen.1, hgen.2, by omega, by omega, fun p hp => q _ _ (new_same hp) (new_tup (r.flat k.toNat) hp)⟩
        · cases rx
          obtain ⟨t, rfl⟩ := ry
          obtain ⟨its, rv, ⟨⟨cls, dd, data, sl⟩, ho, hc, n, hd⟩, hs⟩ := I.tuple hT
          simp only at hc hd
          subst hc hd
          have hl2 : its.length = vs.length := rv.length.symm
          have c0 : (decide (k < -(2 ^ 63)) || decide (k ≥ 2 ^ 63)) = false := by
            rw [decide_eq_false (by omega), decide_eq_false (by omega)] <;> rfl
          have road : ∀ {Q' : Value → Shared → Prop}, wpAny (model X.prog X.w) X.A (PySem.call (.builtin "tuple.__mul__") [.ref l, .int k t]) Q' X.xe s → wpAny (model X.prog X.w) X.A (PySem.call (.builtin "tuple.__mul__") [.ref l, .int k t]) Q' X.xe s := fun z => z
          by_cases hsame : vs = [] ∨ k = 1
          · have c1 : (its.toArray.isEmpty || k == 1) = true := by
              rcases hsame with z | z
              · rw [z] at hl2
                have : its = [] := List.eq_nil_of_length_eq_zero hl2
                subst this
                rfl
              · subst z
                simp
            have hres : (List.replicate k.toNat xs).flatten = xs := by
              rcases hsame with z | z
              · subst z
                have : xs = [] := by
                  simp only [List.length_nil] at hlen
                  exact List.eq_nil_of_length_eq_zero hlen
                subst this
                simp
              · subst z
                simp
            refine wpAny_binaryOp_repeat_ref (T := "tuple") (U := "int") (by decide) ⟨_, ho, rfl⟩ (fun s' => typeIs_int s' k t) noFill_tuple_mul F.fills_int_mul F.slot_int_rmul repeat_tuple F.slot_int_index.lookup
              (call_meets F.slot_int_rmul (typeIs_int s k t) F.entry_int_rmul (F.args_int_rmul_2 _ _) (int_rmul_tuple k t l its.toArray n dd sl) ⟨ho, rfl, ⟨_, ho, rfl⟩, ?_⟩)
            refine call_meets F.slot_tuple_mul ⟨_, ho, rfl⟩ F.entry_tuple_mul (F.args_tuple_mul_2 _ _) (tmul_same l its.toArray n dd sl k t c0 c1) ⟨ho, ?_⟩
            refine ⟨.ref l, H, I, rfl, q _ H (Same.refl H) ?_⟩
            rw [hres]
            simp only [Rep]
            exact ⟨l, vs, rfl, hT, r⟩
          · have hk0 : k ≤ 0 := by
              have a1 : vs ≠ [] := fun z => hsame (.inl z)
              have a2 : k ≠ 1 := fun z => hsame (.inr z)
              have a3 : ¬ 2 ≤ k := fun z => hgen ⟨a1, z⟩
              omega
            have c1 : (its.toArray.isEmpty || k == 1) = false := by
              have a1 : its ≠ [] := fun z => by
                subst z
                exact hsame (.inl (List.eq_nil_of_length_eq_zero hl2.symm))
              have a2 : (k == 1) = false := beq_eq_false_iff_ne.mpr fun z => hsame (.inr z)
              rw [a2, Bool.or_false]
              cases its with
              | nil => exact absurd rfl a1
              | cons a b => rfl
            have c2 : (decide (k ≤ 0) || its.toArray.isEmpty) = true := by
              rw [decide_eq_true hk0]
              rfl
            have hres : (List.replicate k.toNat xs).flatten = [] := by
              rw [show k.toNat = 0 by omega]
              simp
            refine wpAny_binaryOp_repeat_ref (T := "tuple") (U := "int") (by decide) ⟨_, ho, rfl⟩ (fun s' => typeIs_int s' k t) noFill_tuple_mul F.fills_int_mul F.slot_int_rmul repeat_tuple F.slot_int_index.lookup
              (call_meets F.slot_int_rmul (typeIs_int s k t) F.entry_int_rmul (F.args_int_rmul_2 _ _) (int_rmul_tuple k t l its.toArray n dd sl) ⟨ho, rfl, ⟨_, ho, rfl⟩, ?_⟩)
            refine call_meets F.slot_tuple_mul ⟨_, ho, rfl⟩ F.entry_tuple_mul (F.args_tuple_mul_2 _ _) (tmul_none l its.toArray n dd sl k t c0 c1 c2) ⟨ho, ?_⟩
            have np : H s.heap.objs.size = none := I.hok.fresh (Nat.le_refl _)
            refine ⟨.ref s.heap.objs.size, _, I.laid (t' := s.toks) (o := .tup []) (fun b ob z => Heap.get?_push_of_some _ z) (Nat.le_refl _) ?_, rfl, q _ _ (new_same np) ?_⟩
            · exact ⟨by simp, [], .nil, IsTup.new _ _⟩
            · rw [hres]
              exact new_tup (by simp [RepL]) np
      · cases e
    | _ => cases e
  | _ => cases e
end
theorem n_trep : NoEx2 otrep := fun x y c fs => by
  cases x <;> cases y <;> simp only [otrep] <;> first | (split <;> exact fun z => nomatch z) | exact fun z => nomatch z
end Py
/-! Lists and tuples walked within an except suite; except X as e for an own class X. -/
/-! Dict displays, list(range(..)), max and min of a list, starred items, extend. -/
namespace Py
open PySem PySem.Spec PyProof.Rows L2
theorem Ctx.inn {X : Cx} {W : WX} {k : Nat} (T : Ctx X W k) : OpR X (compareOp .In) (r2 X.K oin) := y_in (by have := T.hr.un; omega)
theorem Ctx.nin {X : Cx} {W : WX} {k : Nat} (T : Ctx X W k) : OpR X (compareOp .NotIn) (r2 X.K onotin) := y_notin (by have := T.hr.un; omega)
theorem Ctx.ix {X : Cx} {W : WX} {k : Nat} (T : Ctx X W k) : IxR X (r2 X.K oidx) := y_idx (by have := T.hr.un; omega)
theorem Ctx.st {X : Cx} {W : WX} {k : Nat} (T : Ctx X W k) : PSet X (rSetX X.K) := set_any (by have := T.hr.un; omega)
theorem CtxH.inn {X : Cx} {W : WX} {k : Nat} (T : CtxH X W k) : OpR X (compareOp .In) (r2 X.K oin) := y_in (by have := T.hr.un; omega)
theorem CtxH.nin {X : Cx} {W : WX} {k : Nat} (T : CtxH X W k) : OpR X (compareOp .NotIn) (r2 X.K onotin) := y_notin (by have := T.hr.un; omega)
theorem CtxH.ix {X : Cx} {W : WX} {k : Nat} (T : CtxH X W k) : IxR X (r2 X.K oidx) := y_idx (by have := T.hr.un; omega)
theorem CtxH.st {X : Cx} {W : WX} {k : Nat} (T : CtxH X W k) : PSet X (rSetX X.K) := set_any (by have := T.hr.un; omega)
/-! ### {} and {k: v} -/
theorem dicT_stay {a : Addr} {es : List (NestedKey × Addr × V)} {P : Program} {w : World} {H : Hp} {h : Heap} (h1 : (a == sysModules) = false) (h2 : es.length ≤ sizeLine) {xs : List (NestedKey × Addr × Value)} (p : PT3 es xs) {o : Obj} {en : Array DictEntry} {ep : Nat}
    (g1 : h.get? a = some o) (g2 : o.ExactDict) (g3 : o.data = .dict en ep) (g4 : ∀ w : World, en.toList = xs.map (entW w)) (g5 : (xs.map (·.1)).Nodup) : ObjOk P w H h a (dicT a es) := by
  refine ⟨⟨h1, h2, xs, p, o, en, ep, g1, g2, g3, g4, g5⟩, ⟨o, g1⟩, ?_⟩
  rintro h1 h2 ⟨y1, y2, xs', y3, o', en2, ep2, z1, z2⟩ hk2
  exact ⟨y1, y2, xs', y3, o', en2, ep2, hk2 _ z1, z2⟩
theorem dicT_empty {P : Program} {w : World} {H : Hp} (h : Heap) (hb : sysModules < h.objs.size) : ObjOk P w H (h.push { cls := .type "dict", data := .dict #[] }) h.objs.size (dicT h.objs.size []) :=
  dicT_stay (beq_eq_false_iff_ne.mpr (Nat.ne_of_gt hb)) (Nat.zero_le _) .nil (Heap.get?_push_size _ rfl) ⟨rfl, rfl, rfl⟩ rfl (fun _ => rfl) List.nodup_nil
def tDic0 (t : Bool) : TE := fun _ H Q => ∀ p, H p = none → Q (.ref p) (upd H p (if t then dicT p [] else .dK []))
section
variable {X : Cx} {W : WX} {ow : Ow} {k v : Expr} {mk mv : EM} {pos : Pos}
theorem pe_dic0 (t : Bool) : PE X (.Dict [] [] pos) (tDic0 t) := by
  cases t with
  | false => exact pe_dnewK
  | true => exact ⟨fun pins s σ H Q I h => wpAny_Dict_empty ⟨.ref s.heap.objs.size, _, I.laid (a := s.heap.objs.size) (o := dicT s.heap.objs.size []) (t' := s.toks) (fun _ _ q => Heap.get?_push_of_some _ q) (Nat.le_refl _) (dicT_empty s.heap I.big), rfl, h _ (I.hok.fresh (Nat.le_refl _))⟩⟩
theorem f_dic0 (t : Bool) : PE X (.Dict [] [] pos) (tF X.K W ow (dic0 t)) :=
  PE.of (pe_dic0 t) fun σ H Q ⟨A, H0, O, en, R, q⟩ p hp => q p _ hp (new_same hp) (by
    cases t with
    | false => exact .inl ⟨rfl, [], upd_same, by simp [RepK]⟩
    | true => exact .inr ⟨rfl, [], upd_same, by simp [RepT]⟩)
theorem mv_disp {A : AS} {O : OW} {H2 : Hp} {p : Addr} {u o : HO} (e2 : H2 p = some u) (hu : ¬ still u) : Mv (AO (fun b => A b ∨ b = p) O) H2 (fun b => AO A O b ∨ b = p) (upd H2 p o) := ⟨fun b hb => .inl (by
    rcases hb with (hb | hb) | hb
    · exact .inl (.inl hb)
    · exact .inr hb
    · exact .inl (.inr hb)), fun b o' e hb => by
    rw [upd_ne]
    · exact e
    · intro z
      subst z
      rcases hb with hb | hb
      · exact hb (.inl (.inr rfl))
      · rw [e2] at e
        cases e
        exact hu hb⟩
theorem ER.aside {K : Frag} {A : AS} {H0 : Base} {O : OW} {σ : L2.St} {H : Hp} {e : Env} (R : ER K A H0 ow O σ H e) {p : Addr} {o : HO} (hp : H p = none) : ER K (fun b => A b ∨ b = p) H0 ow O σ (upd H p o) e :=
  R.more (fun b hb => by
    rcases hb with hb | hb
    · exact ne_none (new_same hp) (R.a0 b hb)
    · rw [hb, upd_same]
      exact fun z => nomatch z) (new_same hp) (fun b hb => hb.elim .inl fun z => by rw [z]; exact .inr hp) fun b hb => .inl hb
/-- errors within: seen from before -/
theorem badE.aside {K : Frag} {A : AS} {O : OW} {σ : L2.St} {H : Hp} {p : Addr} {o : HO} (hp : H p = none) {c : String} {fs : List (String × D)} (h : badE K W A O σ H c fs) : badE K W (fun b => A b ∨ b = p) O σ (upd H p o) c fs := fun da H' fvs s hd r =>
  h da H' fvs ((new_same hp).trans s) hd (RepF.move (Mv.less fun b hb => by
    rcases hb with hb | hb
    · exact .inl (.inl hb)
    · exact .inr hb) _ _ r)
/-- {k: v}, k a number or a text -/
theorem f_dicK (hk : PE X k (tE X.K W ow mk)) (hv : PE X v (tE X.K W ow mv)) : PE X (.Dict [some k] [v] pos) (tF X.K W ow (dic1 false mk mv)) :=
  PE.of (pe_disp (pps_cons hk hv pps_nil) rfl rfl (fun z => by cases z) (by simp)) fun σ H Q ⟨A, H0, O, en, R, q⟩ p hp => by
    have R' := R.aside (o := .dK []) hp
    refine ⟨_, H0, O, en, R', ((Out.bind q).imp (fun _ _ z => z) fun c fs z => badE.aside hp z).good fun kd q1 x H1 s1 r1 => ⟨_, H0, O, en, R'.to s1, (((Out.bind q1).imp (fun _ _ z => z) fun c fs z => badE.aside (o := .dK []) hp z).to s1).good fun vd q2 y H2 s2 r2 => ?_⟩⟩
    have e2 : H2 p = some (.dK []) := s2 _ _ (s1 _ _ upd_same)
    refine ⟨e2, ?_⟩
    split at q2
    · rename_i hko
      obtain ⟨c, hc⟩ := keyK hko
      have hx := kv_rep hc r1
      subst hx
      refine ⟨[(c, y)], rfl, by simp, ?_⟩
      have s3 : Same H (upd H2 p (.dK (mergeK [] [(c, y)]))) := fun b o e => by
        rw [upd_ne fun z => by
          subst z
          rw [hp] at e
          cases e]
        exact s2 _ _ (s1 _ _ (new_same hp _ _ e))
      refine q2 p _ hp s3 (.inl ⟨rfl, [(c, y)], by rw [upd_same]; rfl, ?_⟩)
      simp only [RepK]
      exact ⟨c, y, [], rfl, hc, Rep.move (mv_disp e2 fun z => z) _ _ r2, rfl⟩
    · exact q2.elim
def tDicT (tk tv : TE) : TE := fun σ H Q => ∀ p, H p = none → tk σ (upd H p (dicT p [])) fun x H1 => tv σ H1 fun y H2 => H2 p = some (dicT p []) ∧ ∃ (K : Frag) (A : AS) (kd : D) (c : NestedKey) (b : Addr), K = X.K ∧ x = .ref b ∧ keyOk true kd = true ∧ nk kd = some c ∧ Rep K A H2 kd x ∧ Q (.ref p) (upd H2 p (dicT p [(c, b, y)]))
theorem pe_dicT {tk tv : TE} (hu : X.A.units + 16 < cLine) (hk : PE X k tk) (hv : PE X v tv) : PE X (.Dict [some k] [v] pos) (tDicT (X := X) tk tv) := by
  refine ⟨fun pins s σ H Q I q => ?_⟩
  have hn := I.hok.fresh (Nat.le_refl s.heap.objs.size)
  have I1 := I.laid (a := s.heap.objs.size) (o := dicT s.heap.objs.size []) (h' := s.heap.push { cls := .type "dict", data := .dict #[] }) (t' := s.toks) (fun _ _ q => Heap.get?_push_of_some _ q) (Nat.le_refl _) (dicT_empty s.heap I.big)
  show wpAny (model X.prog X.w) X.A (eval (.Dict [some k] [v] pos) X.env) _ _ s
  rw [arm_eval_Dict, zip_pairTrees [some k] [v] X.env pos rfl rfl, dictDisplay_pairs _ (by simp [pairTrees]) (by simp [pairTrees])]
  refine wpAny_bind (wpAny_standAt (wpAny_bind (wpAny_subDictH (knd := nestedKind X.prog X.w) (Q := fun d s' => wpAny (model X.prog X.w) X.A (pure (Value.ref d)) _ _ s') (by show X.A.units + 8 < cLine; omega) (by simp [pairTrees]) ?_)))
  refine pairTrees_cons_walk (thn (hk.run pins _ σ _ _ I1 (q _ hn)) fun u s1 ⟨x, H1, I2, rx, q1⟩ => thn (hv.run pins s1 σ H1 _ I2 q1) fun w2 s2 ⟨y, H2, I3, ry, e, K, A, kd, c, b, eK, ex, hko, hc, rk, q2⟩ => pairTrees_nil_walk ?_)
  subst eK ex
  cases (show u = Value.ref b from rx)
  obtain ⟨z, hsm, xs, rel, dd, _⟩ := dic_rd (A := A) (kvs := []) I3 e (by simp [RepT])
  cases rel
  refine ⟨[(c, b, w2)], ⟨rfl, rfl, is_of I3 hko hc rk, trivial⟩, dd, fun h' tk dd' hs => wpAny_pure ⟨.ref s.heap.objs.size, _, ?_, rfl, q2⟩⟩
  obtain ⟨o0, en, ep, g1, g2, g3, g4, _, g5⟩ := dd'
  refine d_write I3 (by rw [e]; exact True.intro) hs ⟨o0, g1⟩ (dicT_stay hsm (by rw [sizeLine_eq]; simp) (xs := [(c, b, w2)]) (.cons ⟨rfl, rfl, ry⟩ .nil) g1 g2 g3 (fun w => ?_) (by simp))
  have g4' : en.toList = [(c, b, w2)].map (entW X.w) := g4
  rw [g4']
  exact ent_any (es := [(c, b, y)]) (.cons ⟨rfl, rfl, ry⟩ .nil) fun x hx => by
    rw [List.mem_singleton.mp hx]
    exact nk_hash _ _ kd c hc
/-- {k: v}, k a tuple -/
theorem f_dicT (hu : X.A.units + 16 < cLine) (hk : PE X k (tE X.K W ow mk)) (hv : PE X v (tE X.K W ow mv)) : PE X (.Dict [some k] [v] pos) (tF X.K W ow (dic1 true mk mv)) :=
  PE.of (pe_dicT hu hk hv) fun σ H Q ⟨A, H0, O, en, R, q⟩ p hp => by
    have R' := R.aside (o := dicT p []) hp
    refine ⟨_, H0, O, en, R', ((Out.bind q).imp (fun _ _ z => z) fun c fs z => badE.aside hp z).good fun kd q1 x H1 s1 r1 => ⟨_, H0, O, en, R'.to s1, (((Out.bind q1).imp (fun _ _ z => z) fun c fs z => badE.aside (o := dicT p []) hp z).to s1).good fun vd q2 y H2 s2 r2 => ?_⟩⟩
    have e2 : H2 p = some (dicT p []) := s2 _ _ (s1 _ _ upd_same)
    refine ⟨e2, ?_⟩
    split at q2
    · rename_i hko
      obtain ⟨c, hc, _⟩ := keyT hko
      have r1' := Rep.move (Mv.same s2) _ _ r1
      have hb : ∃ b, x = .ref b := by
        cases kd with
        | tup xs' =>
          simp only [Rep] at r1'
          obtain ⟨b, vs, rfl, _⟩ := r1'
          exact ⟨b, rfl⟩
        | _ => simp [keyOk] at hko
      obtain ⟨b, rfl⟩ := hb
      refine ⟨X.K, _, kd, c, b, rfl, rfl, hko, hc, r1', ?_⟩
      have s3 : Same H (upd H2 p (dicT p [(c, b, y)])) := fun b o e => by
        rw [upd_ne fun z => by
          subst z
          rw [hp] at e
          cases e]
        exact s2 _ _ (s1 _ _ (new_same hp _ _ e))
      have mv := mv_disp (A := A) (O := O) (o := dicT p [(c, b, y)]) e2 fun z => z
      refine q2 p _ hp s3 (.inr ⟨rfl, [(c, b, y)], upd_same, ?_⟩)
      simp only [RepT]
      exact ⟨c, b, y, [], rfl, ⟨hc, hko⟩, Rep.move mv _ _ r1', Rep.move mv _ _ r2, rfl⟩
    · exact q2.elim
end
/-! ### list(range(..)) -/
section
variable {X : Cx} {W : WX} {ow : Ow} {a b e : Expr} {es : List Expr} {m ma mb : EM} {am : AM} {pos p p2 : Pos}
theorem rgV_rep {K : Frag} {A : AS} {H : Hp} (lo hi : Int) : RepL K A H (rngL lo hi) (rgV lo hi) := by
  have key : ∀ l : List Nat, RepL K A H (l.map fun i => D.int (lo + (i : Nat))) (l.map fun i => V.int (lo + (i : Nat))) := by
    intro l
    induction l with
    | nil => simp [RepL]
    | cons x l ih =>
      simp only [List.map_cons, RepL]
      exact ⟨_, _, rfl, by simp [Rep], ih⟩
  unfold rngL rgV
  exact key _
theorem new_own {K : Frag} {A : AS} {H : Hp} {p : Addr} {ds : List D} {vs : List V} (hp : H p = none) (r : RepL K A H ds vs) : OwnAt K (fun b => A b ∨ b = p) (upd H p (.lst vs)) p (.lst ds) :=
  ⟨vs, upd_same, RepL.move ⟨fun b hb => by
      rcases hb with hb | rfl
      · exact .inl hb
      · exact .inr hp, fun b o e _ => new_same hp b o e⟩ _ _ r⟩
theorem f_lrng1 (hc : X.calm = true) (hgl : Gl X "list") (hml : X.mg "list" = none) (hg : Gl X "range") (hm : X.mg "range" = none) (ha : PE X a (tE X.K W ow ma)) (hs : starEach [a] X.env = [(false, eval a X.env)] := by rfl)
    (hs2 : starEach [.Call (.Name "range" p) [a] [] p2] X.env = [(false, eval (.Call (.Name "range" p) [a] [] p2) X.env)] := by rfl) {pn : Pos} : PE X (.Call (.Name "list" pn) [.Call (.Name "range" p) [a] [] p2] [] pos) (tF X.K W ow (lrngE (irng1 ma))) :=
  PE.of (pe_listRg hc hgl hml (prg_1 hg hm ha hs) hs2) fun σ H Q ⟨A, H0, O, en, R, q⟩ => ⟨A, H0, O, en, R, (Out.bind (Out.bind q)).good fun d q1 v H1 s1 r1 => by
    cases d with
    | int n =>
      have r1' : v = .int n := r1
      subst r1'
      dsimp only at q1
      split at q1
      · rename_i hz
        have q2 : Out (if (rngL 0 n).length ≤ 1000000 then Res.ok (D.lst (rngL 0 n)) else Res.stuck) _ _ := q1
        split at q2
        · rename_i hl
          have hl2 : (n - 0).toNat ≤ 1000000 := by
            unfold rngL at hl
            simpa using hl
          obtain ⟨z1, z2⟩ := nb62 hz
          refine ⟨n, rfl, ⟨by decide, by decide, z1, z2, by omega⟩, fun q3 hq => q2 q3 _ (s1.free hq) (s1.trans (new_same hq)) (new_own hq (rgV_rep 0 n))⟩
        · exact q2.elim
      · exact q1.elim
    | _ => exact q1.elim⟩
/-! ### starred items -/
theorem rep_paired {K : Frag} {A : AS} {H : Hp} : ∀ {vs : List V} {ds : List D}, RepL K A H ds vs → Paired (fun v d => Rep K A H d v) vs ds
  | vs, [], r => by
    simp only [RepL] at r
    subst r
    exact .nil
  | vs, d :: ds, r => by
    simp only [RepL] at r
    obtain ⟨v, q, rfl, h1, h2⟩ := r
    exact .cons h1 (rep_paired h2)
theorem xa_star (ha : PE X e (tE X.K W ow m)) (hr : PA X es (aE X.K W ow am)) (hs : starEach (.Starred e p :: es) X.env = (true, eval e X.env) :: starEach es X.env := by rfl) : PA X (.Starred e p :: es) (aE X.K W ow (argS m am)) :=
  PA.of (StX.pa_star ha hr hs) fun σ H Q ⟨A, H0, O, en, R, q⟩ => ⟨A, H0, O, en, R, (Out.bind q).good fun d q1 v H1 s1 r1 => by
    have hrep : ∀ {bs : Bool × List D}, seqOf d = some bs → ∃ pa vs, v = .ref pa ∧ (SqT X.K H1 pa vs ∨ SqL X.K H1 pa vs) ∧ RepL X.K (AO A O) H1 bs.2 vs := by
      intro bs hb
      cases d with
      | lst xs =>
        simp only [seqOf, Option.some.injEq] at hb
        subst hb
        obtain ⟨pa, vs, e, n, h, r⟩ := (by simpa only [Rep] using r1 : ∃ a vs, v = .ref a ∧ ¬ AO A O a ∧ Rd H1 a (.lst vs) ∧ RepL X.K (AO A O) H1 xs vs)
        exact ⟨pa, vs, e, .inr (.inl h), r⟩
      | tup xs =>
        simp only [seqOf, Option.some.injEq] at hb
        subst hb
        obtain ⟨pa, vs, e, h, r⟩ := (by simpa only [Rep] using r1 : ∃ a vs, v = .ref a ∧ SqT X.K H1 a vs ∧ RepL X.K (AO A O) H1 xs vs)
        exact ⟨pa, vs, e, .inl h, r⟩
      | _ => simp [seqOf] at hb
    cases hsq : seqOf d with
    | none =>
      rw [hsq] at q1
      exact q1.elim
    | some bs =>
      obtain ⟨pa, vs, rfl, hq, r⟩ := hrep hsq
      rw [hsq] at q1
      obtain ⟨bb, xs⟩ := bs
      exact ⟨pa, vs, rfl, hq, A, H0, O, en, R.to s1, ((Out.bind q1).to s1).good fun ds q2 ws H2 s2 r2 => q2 _ H2 (s1.trans s2) (rep_paired ((RepL.move (Mv.same s2) _ _ r).append (paired_rep r2)))⟩⟩
end
end Py
namespace Py
theorem Ctx.dh {X : L2.Cx} {W : L2.WX} {k : Nat} (T : Ctx X W k) : X.A.units + 16 < PySem.cLine := by have := T.hr.un; omega
end Py
/-! max, min of a list; extend; ranges with a step. -/
namespace Py
open PySem PySem.Spec PyProof.Rows L2
/-! ### max, min -/
theorem foldmax : ∀ (is : List Int) (i : Int), (is.foldl (fun a b => if b > a then b else a) i) ∈ i :: is ∧ ∀ j ∈ i :: is, j ≤ is.foldl (fun a b => if b > a then b else a) i
  | [], i => ⟨by simp, fun j hj => by rw [List.mem_singleton.mp hj]; exact Int.le_refl _⟩
  | k :: is, i => by
    simp only [List.foldl_cons]
    obtain ⟨h1, h2⟩ := foldmax is (if k > i then k else i)
    refine ⟨?_, fun j hj => ?_⟩
    · rcases List.mem_cons.mp h1 with h | h
      · rw [h]
        split <;> simp
      · exact List.mem_cons_of_mem _ (List.mem_cons_of_mem _ h)
    · have h0 := h2 _ List.mem_cons_self
      rcases List.mem_cons.mp hj with rfl | hj
      · split at h0 <;> split <;> omega
      · rcases List.mem_cons.mp hj with rfl | hj
        · split at h0 <;> split <;> omega
        · exact h2 j (List.mem_cons_of_mem _ hj)
section
variable {X : Cx}
theorem v_maxL (hc : X.calm = true) : CallR X (.builtin "max") (c1 X.K bmaxL) := cimp (cr_max hc) fun xs H Q ⟨x, e0, A, d1, d, h1, ha, e, k⟩ => by
  subst e0
  cases d1 with
  | lst xs =>
    simp only [bmaxL] at e
    split at e
    · rename_i i is hi
      simp only [Res.ok.injEq] at e
      subst e
      obtain ⟨a, vs, rfl, q, r⟩ := h1
      have e1 := ints_of r hi
      subst e1
      obtain ⟨f1, f2⟩ := foldmax is i
      refine ⟨a, i :: is, rfl, .inl q, by simp, fun m hm hle => ?_⟩
      have : m = is.foldl (fun a b => if b > a then b else a) i := by
        have a1 := f2 m hm
        have a2 := hle _ f1
        omega
      rw [this]
      exact k _ H (Same.refl H) (flat_rep rfl _ _)
    · cases e
  | _ => simp [bmaxL] at e
theorem n_maxL : NoEx1 bmaxL := fun x c fs => by
  cases x <;> simp only [bmaxL] <;> first | (split <;> exact fun z => nomatch z) | exact fun z => nomatch z
end
/-! ### extend -/
end Py
/-! len(x) by an own __len__. -/
namespace Py
open PySem PySem.Spec PyProof.Rows L2
theorem cx_no {P : Program} {w : World} {st : List PySem.Env} {H : Hp} {s : Shared} {e : Value} {s' : Shared} (h : L2N.CX P w st H s (fun _ _ _ => False) e s') : False := by
  obtain ⟨a, B, H', cls, d, rfl, fl, hok, ub, na, os, ag, hE⟩ := h
  exact hE
structure LenOk (P : Program) (w : World) (K : Frag) (mg : Str → Option Value) (base : Heap) (j : Nat) (c : String) (fm : List D → Res D) : Prop where
  ex : ∃ f fd ps k, k + 1 ≤ j ∧ PySem.W.findIn K (.ref (ca K c)) "__len__" = some (some (.ref f)) ∧ PySem.W.isFn K (.ref f) = true ∧ Binds K fd ps [] ∧ FnOk P w K mg base (L2N.CX P w) k f fd ps (spM K 1 fm)
section
variable {X : Cx} {W : WX} {j : Nat}
theorem v_lenX {ms : List (String × (List D → Res D))} (T : Ctx X W j) (hms : ∀ c fm, ms.lookup c = some fm → LenOk X.prog X.w X.K X.mg X.base j c fm) : CallR X (.builtin "len") (c1 X.K (lenX ms)) := by
  intro pins s σ H xs us Q I rx ⟨x, e0, A, d1, d, h1, ha, e, k⟩
  cases d1 with
  | ins c fs =>
    simp only [lenX] at e
    cases hl : ms.lookup c with
    | none =>
      rw [hl] at e
      cases e
    | some fm =>
      rw [hl] at e
      dsimp only at e
      obtain ⟨f, fd, ps, k0, hk, hs, hf, hb, F⟩ := (hms c fm hl).ex
      subst e0
      obtain ⟨a, dx, fvs, rfl, q, r⟩ := h1
      cases rx with
      | cons rr rt =>
        cases rt
        cases (show _ = Value.ref a from rr)
        cases hfm : fm [.ins c fs] with
        | exc _ _ => rw [hfm] at e; cases e
        | stuck => rw [hfm] at e; cases e
        | ok dn =>
          rw [hfm] at e
          cases dn with
          | int n =>
            have e : (if 0 ≤ n ∧ n.natAbs < B62 then Res.ok (D.int n) else Res.stuck) = Res.ok d := e
            split at e
            · rename_i hn
              simp only [Res.ok.injEq] at e
              subst e
              obtain ⟨mA, J, _⟩ := ins_get I.hok q
              obtain ⟨od, J, _⟩ := J.look
              obtain ⟨m, hF⟩ := I.fr
              refine PySem.W.len_K hF I.ok.mod.kin J hs hf ?_
              have hsp : spM X.K 1 fm [.ref a] H (fun v H' => v = .int n ∧ Same H H') (fun _ _ _ => False) := ⟨fun _ => False, [.ins c fs], by
                simp only [RepL, Rep]
                exact ⟨_, [], rfl, ⟨a, dx, fvs, rfl, fun z => z, q, RepF.move (Mv.less fun _ z => z.elim) _ _ r⟩, rfl⟩, rfl, fun _ z => z.elim, by
                rw [hfm]
                exact fun v H' s' r' => ⟨r', s'⟩⟩
              have e0 : Env0 X.prog X.w X.K X.mg X.base X.A.in1 X.stack s H := by
                have e := I.env0
                exact ⟨e.frames, e.mod, e.bs, e.bsz, e.funs, e.frf, e.hok, e.bare⟩
              have hlen := F.len _ _ _ _ hsp
              refine wpAny_call (codeAny_mono (F.run X.A.in1 X.stack s H ⟨[.ref a], []⟩ [.ref a] [.ref a] _ (fun _ _ _ => False) (Room.in1 (T.hr.mono hk)) e0 (by
                have := hb s [.ref a] I.kIn (by simpa using hlen)
                simpa using this) (.cons rfl .nil) hsp) fun r s' hq => ?_)
              cases r with
              | error e => exact (cx_no hq).elim
              | ok fl =>
                cases fl with
                | ret w =>
                  obtain ⟨z, H', I', rz, ez, ex⟩ := I.after hq
                  subst ez
                  obtain ⟨tk, rfl⟩ := rz
                  obtain ⟨z1, z2⟩ := nb62 hn.2
                  exact ⟨⟨hn.1, by omega⟩, .int n, H', I'.tok _, ⟨_, rfl⟩, k _ H' ex rfl⟩
                | next => exact False.elim hq
                | brk => exact False.elim hq
                | cont => exact False.elim hq
            · cases e
          | _ => cases e
  | _ => exact v_len pins s σ H xs us Q I rx ⟨x, e0, A, _, d, h1, ha, e, k⟩
theorem n_lenX {ms : List (String × (List D → Res D))} : NoEx1 (lenX ms) := fun x c fs => by
  have hb : ∀ d, blen d ≠ .exc c fs := fun d => n_len d c fs
  cases x with
  | ins c' fs' =>
    simp only [lenX]
    split
    · split
      · split <;> exact fun z => nomatch z
      · exact fun z => nomatch z
    · exact fun z => nomatch z
  | lst xs => exact n_len (.lst xs) c fs
  | tup xs => exact n_len (.tup xs) c fs
  | str xs => exact n_len (.str xs) c fs
  | dic t xs => exact n_len (.dic t xs) c fs
  | _ => exact fun z => nomatch z
theorem len_ok {P : Program} {w : World} {K : Frag} {mg : Str → Option Value} {base : Heap} {j k : Nat} {c : String} {fm : List D → Res D} (C : MethOk P w K mg base k c "__len__" 1 fm) (hk : k + 1 ≤ j) : LenOk P w K mg base j c fm := by
  obtain ⟨f, fd, ps, h1, h2, h3, h4, h5⟩ := C.ex
  exact ⟨_, fd, ps, k, hk, h2.at_, h2.fn, h3, h4⟩
theorem lens_nil {P : Program} {w : World} {K : Frag} {mg : Str → Option Value} {base : Heap} {j : Nat} : ∀ c fm, ([] : List (String × (List D → Res D))).lookup c = some fm → LenOk P w K mg base j c fm := fun c fm h => nomatch h
theorem lens_cons {P : Program} {w : World} {K : Frag} {mg : Str → Option Value} {base : Heap} {j : Nat} {c0 : String} {f0 : List D → Res D} {ms : List (String × (List D → Res D))} (h0 : LenOk P w K mg base j c0 f0) (h : ∀ c fm, ms.lookup c = some fm → LenOk P w K mg base j c fm) : ∀ c fm, ((c0, f0) :: ms).lookup c = some fm → LenOk P w K mg base j c fm := fun c fm q => by
  by_cases e : c = c0
  · subst e
    simp only [List.lookup_cons, beq_self_eq_true, Option.some.injEq] at q
    subst q
    exact h0
  · simp only [List.lookup_cons, beq_eq_false_iff_ne.mpr e] at q
    exact h c fm q
end
end Py
namespace Py
open PySem PySem.Spec PyProof.Rows L2
/-! ### methods, wherever the error goes -/
section
variable {X : Cx} {W : WX} {ow : Ow} {o e : Expr} {es : List Expr} {ma : EM} {am : AM} {pos apos : Pos} {k j n : Nat} {cls mn : String} {fm : List D → Res D}
def tMethS (C : Addr) (m : Str) (sp : Sp) (E : L2.St → XK) (ta : TE) (t : TA) : TE := fun σ H Q => ta σ H fun x H1 => ∃ a dx fs, x = .ref a ∧ H1 a = some (.ins C dx fs) ∧ fs.lookup m = none ∧ t σ H1 fun vs H2 => sp (.ref a :: vs) H2 Q (E σ)
theorem pe_methS {C f : Addr} {fd : FuncData} {ps : List Str} {m : Str} {sp : Sp} {CX : CXT} {E : L2.St → XK} {ta : TE} {t : TA} {pl : Sem Bool} (he : PE X o ta) (c : Cls X.K C) (hm : Meth X.K C m f) (F : FnOk X.prog X.w X.K X.mg X.base CX k f fd ps sp) (hr : Room k X.A) (hb : Binds X.K fd ps []) (hx : ∀ σ, PassesAt CX X σ (E σ)) (ha : PA X (e :: es) t)
    (hst : starEach (e :: es) X.env = (false, eval e X.env) :: starEach es X.env) (hpl : (backTo pos (starEach es X.env)).any (·.1) = false)
    (ht : eval (.Call (.Attribute o m apos) (e :: es) [] pos) X.env = (do
      let ov ← eval o X.env
      standAt apos.atName
      let (f, first) ← holding [ov] (getMethod ov m pl)
      callWith pos f first (backTo pos (starEach (e :: es) X.env)) (backToKw pos (keywordEach [] X.env)))) :
    PE X (.Call (.Attribute o m apos) (e :: es) [] pos) (tMethS C m sp E ta t) := by
  refine ⟨fun pins s σ H Q I h => ?_⟩
  refine PySem.W.methodCall_KW (pl := pl) (thn (he.run pins s σ H _ I h) fun u s1 ⟨x, H1, I1, rx, a, dx, fs, ex, ea, l, q⟩ => ?_) ht
  subst ex
  obtain rfl : u = Value.ref a := rx
  refine getmeth_ok I1 ea c hm l ?_
  refine PySem.W.callWith_K (first := [.ref a]) (h₀ := X.base) I.ok.mod.kin hm.kp (thn (ha.run pos pins s1 σ H1 _ I1 q) fun us s2 ⟨vs, H2, I2, r, q2⟩ => ⟨I2.kIn, ?_⟩) hst hpl
  exact run_fnS (us := .ref a :: us) (vs := .ref a :: vs) F hr hb (hx σ) I2 (.cons rfl r) q2
theorem x_methS {pl : Sem Bool} {m : Str} (hm : m = Str.ofString mn) (T : Ctx X W j) (C : MethOk X.prog X.w X.K X.mg X.base k cls mn n fm) (hk : k ≤ j) (ho : PE X o (tE X.K W ow ma)) (ha : PA X (e :: es) (aE X.K W ow am))
    (hst : starEach (e :: es) X.env = (false, eval e X.env) :: starEach es X.env := by rfl) (hpl : (backTo pos (starEach es X.env)).any (·.1) = false := by rfl)
    (ht : eval (.Call (.Attribute o m apos) (e :: es) [] pos) X.env = (do
      let ov ← eval o X.env
      standAt apos.atName
      let (f, first) ← holding [ov] (getMethod ov m pl)
      callWith pos f first (backTo pos (starEach (e :: es) X.env)) (backToKw pos (keywordEach [] X.env))) := by rfl) :
    PE X (.Call (.Attribute o m apos) (e :: es) [] pos) (tE X.K W ow (callM cls mn fm ma am)) := by
  obtain ⟨f, fd, ps, h1, h2, h3, h4, h5⟩ := C.ex
  subst hm
  refine PE.of (pe_methS (E := WE W) ho h1 h2 h4 (T.hr.mono hk) h3 (fun σ => L2N.passAt T.tk σ) ha hst hpl ht) fun σ H Q h => ?_
  obtain ⟨A, H0, O, en, R, q⟩ := h
  refine ⟨A, H0, O, en, R, (Out.bind q).good fun d q1 v H1 s1 r1 => ?_⟩
  cases d with
  | ins c' fs =>
    simp only at q1
    split at q1
    · rename_i hc
      obtain ⟨rfl, hl⟩ := hc
      obtain ⟨p, dx, fvs, rfl, na, q2, r2⟩ := (by simpa only [Rep] using r1 : ∃ a dx fvs, v = .ref a ∧ ¬ AO A O a ∧ H1 a = some (.ins (ca X.K c') dx fvs) ∧ RepF X.K (AO A O) H1 fs fvs)
      have lk := r2.look (f := mn)
      have hl2 : fs.lookup mn = none := Option.isNone_iff_eq_none.mp hl
      rw [hl2] at lk
      refine ⟨p, dx, fvs, rfl, q2, lk, A, H0, O, en, R.to s1, ((Out.bind q1).to s1).good fun ds q3 vs H2 s2 r3 => ?_⟩
      refine ⟨AO A O, .ins c' fs :: ds, ?_, ?_, ((R.to s1).to s2).there, q3.imp (fun d _ k v H3 s3 r3 => k v H3 ((s1.trans s2).trans s3) r3) fun c fs2 z da H3 fvs2 s3 q4 r4 => z da H3 fvs2 ((s1.trans s2).trans s3) q4 r4⟩
      · simp only [RepL]
        exact ⟨_, vs, rfl, Rep.move (Mv.same s2) _ _ r1, paired_rep r3⟩
      · cases e : fm (.ins c' fs :: ds) with
        | ok d => exact h5.ok _ d e
        | exc c fs => exact h5.ex _ c fs e
        | stuck =>
          rw [e] at q3
          exact q3.elim
    · exact q1.elim
  | _ => exact q1.elim
end
/-! ### statements that never go on -/
end Py
/-! Lists of new lists, filled at drawn places. -/
namespace Py
open PySem L2
/-- lists of numbers, all of them new: where they stand -/
structure Nst (H : Hp) (a : Addr) (as : List Addr) (zss : List (List Int)) : Prop where
  out : H a = some (.lst (as.map V.ref))
  nd : as.Nodup
  no : a ∉ as
  len : as.length = zss.length
  inn : ∀ (k : Nat) (b : Addr) (zs : List Int), as[k]? = some b → zss[k]? = some zs → H b = some (.lst (zs.map V.int))
theorem Nst.same {H H' : Hp} {a : Addr} {as : List Addr} {zss : List (List Int)} (h : Nst H a as zss) (s : Same H H') : Nst H' a as zss :=
  ⟨s _ _ h.out, h.nd, h.no, h.len, fun k b zs h1 h2 => s _ _ (h.inn k b zs h1 h2)⟩
theorem Nst.app {H : Hp} {a : Addr} {as : List Addr} {zss : List (List Int)} (h : Nst H a as zss) {q : Nat} {b : Addr} {zs : List Int} (hb : as[q]? = some b) (hz : zss[q]? = some zs) (z : Int) :
    Nst (upd H b (.lst (zs.map V.int ++ [.int z]))) a as (zss.set q (zs ++ [z])) := by
  have hm : b ∈ as := List.mem_of_getElem? hb
  refine ⟨?_, h.nd, h.no, by rw [List.length_set]; exact h.len, fun k c ws h1 h2 => ?_⟩
  · rw [upd_ne (fun e => h.no (by rw [e]; exact hm))]
    exact h.out
  · by_cases e : k = q
    · subst e
      rw [hb] at h1
      cases h1
      have hl : k < zss.length := (List.getElem?_eq_some_iff.mp hz).1
      rw [List.getElem?_set_self hl] at h2
      cases h2
      rw [upd_same, List.map_append]
      rfl
    · rw [List.getElem?_set_ne (fun z => e z.symm)] at h2
      have hne : c ≠ b := fun z => by
        subst z
        have l1 := (List.getElem?_eq_some_iff.mp h1).1
        have l2 := (List.getElem?_eq_some_iff.mp hb).1
        have e1 := (List.getElem?_eq_some_iff.mp h1).2
        have e2 := (List.getElem?_eq_some_iff.mp hb).2
        exact e ((List.getElem_inj h.nd).mp (e1.trans e2.symm))
      rw [upd_ne hne]
      exact h.inn k c ws h1 h2
theorem repL_ints {K : Frag} {A : AS} {H : Hp} : ∀ zs : List Int, RepL K A H (zs.map D.int) (zs.map V.int)
  | [] => rfl
  | z :: zs => ⟨.int z, zs.map V.int, rfl, rfl, repL_ints zs⟩
theorem Nst.rep {K : Frag} {A : AS} {H : Hp} {a : Addr} {as : List Addr} {zss : List (List Int)} (h : Nst H a as zss) (na : ¬ A a) (nb : ∀ b ∈ as, ¬ A b) : Rep K A H (.lst (zss.map fun (zs : List Int) => D.lst (zs.map D.int))) (.ref a) := by
  have key : ∀ (as : List Addr) (zss : List (List Int)), as.length = zss.length → (∀ b ∈ as, ¬ A b) → (∀ (k : Nat) (b : Addr) (zs : List Int), as[k]? = some b → zss[k]? = some zs → H b = some (.lst (zs.map V.int))) → RepL K A H (zss.map fun (zs : List Int) => D.lst (zs.map D.int)) (as.map V.ref) := by
    intro as
    induction as with
    | nil =>
      intro zss hl _ _
      cases zss with
      | nil => rfl
      | cons z zs => simp at hl
    | cons b as ih =>
      intro zss hl hb hi
      cases zss with
      | nil => simp at hl
      | cons zs zss =>
        refine ⟨.ref b, as.map V.ref, rfl, ⟨b, _, rfl, hb b List.mem_cons_self, .inl (hi 0 b zs rfl rfl), repL_ints zs⟩, ih zss (by simpa using hl) (fun c hc => hb c (List.mem_cons_of_mem _ hc)) fun k c ws h1 h2 => hi (k + 1) c ws h1 h2⟩
  exact ⟨a, _, rfl, na, .inl h.out, key as zss h.len nb h.inn⟩
/-- fewer stand aside -/
theorem ER.fewer {K : Frag} {A A' : AS} {H0 : Base} {ow : Ow} {O : OW} {σ : L2.St} {H : Hp} {e : Env} (R : ER K A' H0 ow O σ H e) (hA : ∀ b, A b → A' b) : ER K A H0 ow O σ H e := by
  have mv : Mv (AO A' O) H (AO A O) H := Mv.less fun b hb => hb.elim (fun z => .inl (hA b z)) .inr
  exact ⟨R.len, fun b hb => R.a0 b (hA b hb), R.same, fun i d h1 h2 => let ⟨v, q, r⟩ := R.vals i d h1 h2; ⟨v, q, Rep.move mv _ _ r⟩,
    fun i d h1 h2 => let ⟨a, q, q2, r⟩ := R.owns i d h1 h2; ⟨a, q, q2, r.move mv rfl⟩, fun i a h => ⟨(R.fresh i a h).1, (R.fresh i a h).2.1, fun z => (R.fresh i a h).2.2 (hA a z)⟩, R.inj, R.pin, R.exq.heap mv fun da fvs e => e⟩
/-- what stands aside may change -/
theorem ER.poke {K : Frag} {A : AS} {H0 : Base} {ow : Ow} {O : OW} {σ : L2.St} {H : Hp} {e : Env} (R : ER K A H0 ow O σ H e) {b : Addr} {vs : List V} {o : HO} (hb : A b) (h0 : H0.hp b = none) (hv : H b = some (.lst vs)) : ER K A H0 ow O σ (upd H b o) e ∧ Mv (AO A O) H (AO A O) (upd H b o) := by
  have mv : Mv (AO A O) H (AO A O) (upd H b o) := ⟨fun c hc => .inl hc, fun c u hc hq => by
    have hne : c ≠ b := fun z => by
      subst z
      rcases hq with hq | hq
      · exact hq (.inl hb)
      · rw [hv] at hc
        cases hc
        exact hq
    rw [upd_ne hne]
    exact hc⟩
  have ne : ∀ c, H c ≠ none → upd H b o c ≠ none := fun c hc => by
    by_cases e : c = b
    · rw [e, upd_same]
      exact fun z => nomatch z
    · rw [upd_ne e]
      exact hc
  refine ⟨⟨R.len, fun c hc => ne c (R.a0 c hc), fun c u hc => ?_, fun i d h1 h2 => let ⟨v, q, r⟩ := R.vals i d h1 h2; ⟨v, q, Rep.move mv _ _ r⟩,
    fun i d h1 h2 => let ⟨a, q, q2, r⟩ := R.owns i d h1 h2; ⟨a, q, q2, r.move mv (upd_ne fun z => (R.fresh i a q).2.2 (by rw [z]; exact hb))⟩, fun i a h => ⟨(R.fresh i a h).1, ne a (R.fresh i a h).2.1, (R.fresh i a h).2.2⟩, R.inj, R.pin, R.exq.heap mv fun da fvs e => ?_⟩, mv⟩
  · rw [upd_ne (ne_of_none hc h0)]
    exact R.same _ _ hc
  · rw [upd_ne]
    · exact e
    · intro z
      rw [z, hv] at e
      cases e
/-- [[] for .. in n] -/
theorem lc_nest {K : Frag} {W : WX} {ow : Ow} {n : IM} {vs : List Nat} {gj : Nat} (hx : ow.x = none) (hgj : gj ∈ vs) {σ : L2.St} {H : Hp} {Q : VK} {A : AS} {H0 : Base} {O : OW} {en : Env} {xs : List D} (R : ER K A H0 ow O σ H en) (hn : n en = .ok xs) (hz : xs.length ≤ SZ)
    (q : ∀ a as H1, H a = none → (∀ b ∈ as, H b = none) → Same H H1 → Nst H1 a as (List.replicate xs.length []) → Q (.ref a) H1) :
    tLc (tI Gr K W ow n) (tGt K ow [gj] (gnm gj)) (tT K W0 ow yes) (tF K W0 ow (lstE argN)) vs σ H Q := by
  refine ⟨A, H0, O, en, R, ?_⟩
  rw [hn]
  show ∀ J H', _
  intro J H1 s1 itm D hD
  have hsl : SZ = sizeLine := rfl
  have R1 := R.to s1
  refine ⟨fun i m H' => m = xs.length - i ∧ i ≤ xs.length ∧ ∃ as, H' D = some (.lst (as.map V.ref)) ∧ Same H1 H' ∧ as.length = i ∧ as.Nodup ∧ D ∉ as ∧ ∀ b ∈ as, H1 b = none ∧ H' b = some (.lst []), ⟨xs.length, by simp, Nat.zero_le _, [], upd_same, new_same hD, rfl, List.nodup_nil, by simp, by simp⟩, ?_⟩
  rintro i m H' ⟨rfl, hi, as, h1, s2, h2, h3, h4, h5⟩
  have im := itm i (AO A O) H' ⟨fun b hb => .inl hb, s2⟩
  by_cases hlt : i < xs.length
  · right
    obtain ⟨hgo, hy⟩ := im.1 hlt
    refine ⟨hgo, fun H'' => ∃ as, H'' D = some (.lst (as.map V.ref)) ∧ Same H1 H'' ∧ as.length = i + 1 ∧ as.Nodup ∧ D ∉ as ∧ ∀ b ∈ as, H1 b = none ∧ H'' b = some (.lst []), fun H'' ⟨a1, g1, g2, g3, g4, g5, g6⟩ => ⟨xs.length - (i + 1), by omega, rfl, by omega, a1, g1, g2, g3, g4, g5, g6⟩, fun x H3 y => ?_⟩
    obtain ⟨s3, d, hd, rd⟩ := hy x H3 y
    have R3 : ER K A H0 ow O (L2.wipe σ vs) H3 (wipe en vs) := (R1.to (s2.trans s3)).wipe vs hx
    refine ⟨A, H0, O, wipe en vs, d, (wipe en vs).set gj (some d), R3, rd, rfl, fun σ1 Rσ l1 k1 => ⟨?_, ?_⟩⟩
    · have w1 := wipe_eq (vs := vs) (σ := L2.wipe σ vs) (σ' := σ1) l1 fun j hj => k1 j fun z => hj (by rw [List.mem_singleton.mp z]; exact hgj)
      rw [w1]
      exact wipe_eq (L2.wipe_length _ _) fun j hj => L2.wipe_out hj
    · refine ⟨A, H0, O, _, Rσ, ?_⟩
      show ∀ H', Same H3 H' → _
      intro H4 s4
      rw [if_pos rfl]
      refine ⟨A, H0, O, _, Rσ.to s4, ?_⟩
      show ∀ a H', H4 a = none → Same H4 H' → OwnAt K _ H' a (.lst []) → _
      intro b H5 nb s5 ob
      obtain ⟨ws, e5, r5⟩ := ob
      have hw : ws = [] := by
        have := r5.length
        exact List.eq_nil_of_length_eq_zero this.symm
      rw [hw] at e5
      have s6 : Same H' H5 := (s3.trans s4).trans s5
      have a1 := s6 _ _ h1
      have s7 : Same H1 H4 := (s2.trans s3).trans s4
      have hbD : b ≠ D := fun z => by
        have := (s3.trans s4) _ _ h1
        rw [← z, nb] at this
        cases this
      have hb1 : H1 b = none := s7.free nb
      have hnb : b ∉ as := fun z => by
        have := (s3.trans s4) _ _ (h5 b z).2
        rw [nb] at this
        cases this
      refine ⟨as.map V.ref, a1, by rw [List.length_map]; omega, as ++ [b], by rw [upd_same, List.map_append]; rfl, fun c o e1 => ?_, by simp [h2], ?_, ?_, fun c hc => ?_⟩
      · rw [upd_ne (ne_of_none e1 hD)]
        exact s6 _ _ (s2 _ _ e1)
      · rw [List.nodup_append]
        exact ⟨h3, by simp, fun c hc c' hc' => by
          rw [List.mem_singleton.mp hc']
          rintro rfl
          exact hnb hc⟩
      · intro z
        rcases List.mem_append.mp z with z | z
        · exact h4 z
        · exact hbD (List.mem_singleton.mp z).symm
      · have hcD : c ≠ D := fun z => by
          rcases List.mem_append.mp hc with w | w
          · exact h4 (by rw [← z]; exact w)
          · exact hbD ((List.mem_singleton.mp w).symm.trans z)
        rw [upd_ne hcD]
        rcases List.mem_append.mp hc with w | w
        · exact ⟨(h5 c w).1, s6 _ _ (h5 c w).2⟩
        · rw [List.mem_singleton.mp w]
          exact ⟨hb1, e5⟩
  · left
    have e : i = xs.length := by omega
    refine ⟨im.2 e, q D as H' (s1.free hD) (fun b hb => s1.free (h5 b hb).1) (s1.trans s2) ⟨h1, h3, h4, by rw [h2, List.length_replicate]; exact e, fun k b zs g1 g2 => ?_⟩⟩
    have hzs : zs = [] := by
      have := List.mem_of_getElem? g2
      exact List.eq_of_mem_replicate this
    rw [hzs]
    exact (h5 b (List.mem_of_getElem? g1)).2
end Py
/-! .. filled by a loop. -/
namespace Py
open PySem L2
section
variable {X : Cx} {K : Frag} {W : WX} {ow oN oB : Ow} {i gi gj : Nat} {n it : IM} {mj me : EM} {fr : Bool}
def sbT (K : Frag) (W : WX) (ow : Ow) (i : Nat) (mj me : EM) : TE := tBM K "list" rAppend (tOp (rIxL K) (tVar i) (tE K W ow mj)) (tCons (tE K W ow me) tNil)
theorem scat_for {A : AS} {H0 : Base} {O : OW} {σ : L2.St} {H H1 : Hp} {en : Env} {D : Ends} {a : Addr} {as : List Addr} {zss0 : List (List Int)} {good : Fl → Prop} {bad : String → List (String × Py.D) → Prop}
    (hx : ow.x = none) (hi : ow i = false) (hgi : i ≠ gi) (hil : i < en.length) (R : ER K A H0 ow O σ H en) (ha : H a = none) (has : ∀ b ∈ as, H b = none) (s1 : Same H H1) (N1 : Nst H1 a as zss0)
    (q : Out (noexc (it (en.set i none)) >>= fun ys => scatL i gi mj me ys (en.set i none) zss0) good bad)
    (hgood : ∀ e', good (.next e') → ∀ σ' H', ER K A H0 ow O σ' H' e' → Mv (AO A O) H (AO A O) H' → D.nx σ' H') :
    tFor (tI Mv K W ow it) (tGt K ow [gi] (gnm gi)) (tDrop (sbT K W ow i mj me)) D (σ.set i (some (.ref a))) H1 := by
  have hsl : SZ = sizeLine := rfl
  generalize hA1 : (fun b => A b ∨ b = a ∨ b ∈ as : AS) = A1
  have hA2 : ∀ b, A b → A1 b := fun b hb => by subst hA1; exact .inl hb
  have aA : A1 a := by subst hA1; exact .inr (.inl rfl)
  have bA : ∀ b ∈ as, A1 b := fun b hb => by subst hA1; exact .inr (.inr hb)
  have hA3 : ∀ b, A1 b → A b ∨ H b = none := fun b hb => by
    subst hA1
    rcases hb with hb | hb | hb
    · exact .inl hb
    · rw [hb]; exact .inr ha
    · exact .inr (has b hb)
  have ne1 : ∀ b ∈ as, H1 b ≠ none := fun b hb => by
    obtain ⟨k, hk, rfl⟩ := List.mem_iff_getElem.mp hb
    have hl : k < zss0.length := by rw [← N1.len]; exact hk
    rw [N1.inn k as[k] zss0[k] (List.getElem?_eq_getElem hk) (List.getElem?_eq_getElem hl)]
    exact fun z => nomatch z
  have h00 : ∀ b ∈ as, H0.hp b = none := fun b hb => R.same.free (has b hb)
  have R1 : ER K A1 H0 ow O (σ.set i (some (.ref a))) H1 (en.set i none) := (R.more (A' := A1) (H' := H1) (fun b hb => by
    subst hA1
    rcases hb with hb | hb | hb
    · exact ne_none s1 (R.a0 b hb)
    · rw [hb, N1.out]; exact fun z => nomatch z
    · exact ne1 b hb) s1 hA3 hA2).sub (by simp [R.len]) (fun j d hd => by
    have hji : i ≠ j := fun z => by
      subst z
      rw [List.getElem?_set_self hil] at hd
      cases hd
    rw [List.getElem?_set_ne hji] at hd
    rw [List.getElem?_set_ne hji]
    exact ⟨hd, rfl⟩) (fun q hq => by rw [hx] at hq; cases hq)
  obtain ⟨ys, hys, q2⟩ := noexc_of q
  refine ⟨A1, H0, O, en.set i none, R1, ?_⟩
  rw [hys]
  show ∀ J H', _
  intro J H2 s2 itm
  refine ⟨fun idx m σ' H' => m = ys.length - idx ∧ idx ≤ ys.length ∧ ∃ e' zss, ER K A1 H0 ow O σ' H' e' ∧ e'[i]? = some none ∧ σ'[i]? = some (some (.ref a)) ∧ Nst H' a as zss ∧ Mv (AO A1 O) H2 (AO A1 O) H' ∧ Out (scatL i gi mj me (ys.drop idx) e' zss) good bad,
    ⟨ys.length, by simp, Nat.zero_le _, en.set i none, zss0, R1.to s2, List.getElem?_set_self hil, List.getElem?_set_self (by rw [R.len]; exact hil), N1.same s2, Mv.refl, q2⟩, ?_⟩
  rintro idx m σ' H' ⟨rfl, hidx, e', zss, R', he', hσ', N', mv, q3⟩
  have im := itm idx (AO A1 O) H' mv
  by_cases hlt : idx < ys.length
  · right
    obtain ⟨hgo, hy⟩ := im.1 hlt
    refine ⟨hgo, fun σ' H' => ∃ e' zss, ER K A1 H0 ow O σ' H' e' ∧ e'[i]? = some none ∧ σ'[i]? = some (some (.ref a)) ∧ Nst H' a as zss ∧ Mv (AO A1 O) H2 (AO A1 O) H' ∧ Out (scatL i gi mj me (ys.drop (idx + 1)) e' zss) good bad, fun σ2 H3 ⟨a1, a2, a3⟩ => ⟨ys.length - (idx + 1), by omega, rfl, by omega, a1, a2, a3⟩, fun x H3 y => ?_⟩
    obtain ⟨s3, d, hd, rd⟩ := hy x H3 y
    have hd' : d = ys[idx] := by
      rw [List.getElem?_eq_getElem hlt] at hd
      exact (Option.some.inj hd).symm
    subst hd'
    rw [List.drop_eq_getElem_cons hlt] at q3
    unfold scatL at q3
    obtain ⟨kd, hk, q4⟩ := noexc_of q3
    obtain ⟨zd, hz, q5⟩ := noexc_of q4
    refine ⟨A1, H0, O, e', ys[idx], e'.set gi (some ys[idx]), R'.to s3, rd, rfl, fun σ2 R2 l2 k2 => ?_⟩
    have hσ2 : σ2[i]? = some (some (.ref a)) := by
      rw [k2 i fun z => hgi (List.mem_singleton.mp z)]
      exact hσ'
    cases kd with
    | int k =>
      cases zd with
      | int z =>
        simp only at q5
        cases hq : L2.ixN zss.length k with
        | none =>
          rw [hq] at q5
          exact q5.elim
        | some p =>
          rw [hq] at q5
          simp only at q5
          by_cases hsz : (zss.getD p []).length < SZ
          · rw [if_pos hsz] at q5
            have hp : p < zss.length := (ixN_seq hq).2.1
            have hp2 : p < as.length := by rw [N'.len]; exact hp
            have hzp : zss[p]? = some (zss.getD p []) := by
              rw [List.getD_eq_getElem?_getD, List.getElem?_eq_getElem hp]
              rfl
            have hb : as[p]? = some as[p] := List.getElem?_eq_getElem hp2
            refine ⟨.ref a, hσ2, A1, H0, O, _, R2, ?_⟩
            rw [hk]
            show ∀ v H', _
            intro v H4 s4 r4
            have hv : v = .int k := r4
            subst hv
            have N4 := N'.same (s3.trans s4)
            refine ⟨a, as.map V.ref, k, .ref as[p], rfl, rfl, .inl (.inl N4.out), ?_, ?_⟩
            · unfold atI
              rw [List.length_map, N'.len, hq]
              show (as.map V.ref)[p]? = _
              rw [List.getElem?_map, hb]
              rfl
            refine ⟨sqL (N4.inn p _ _ hb hzp), A1, H0, O, _, R2.to s4, ?_⟩
            rw [hz]
            show ∀ v H', _
            intro v5 H5 s5 r5
            have hv5 : v5 = .int z := r5
            subst hv5
            have N5 := N4.same s5
            refine ⟨as[p], (zss.getD p []).map V.int, .int z, rfl, rfl, N5.inn p _ _ hb hzp, by rw [List.length_map]; exact hsz, ?_⟩
            have hm : as[p] ∈ as := List.getElem_mem hp2
            obtain ⟨R6, mv6⟩ := ((R2.to s4).to s5).poke (o := .lst ((zss.getD p []).map V.int ++ [.int z])) (bA _ hm) (h00 _ hm) (N5.inn p _ _ hb hzp)
            refine ⟨_, _, R6, ?_, hσ2, N5.app hb hzp z, (mv.trans (Mv.same ((s3.trans s4).trans s5))).trans mv6, q5⟩
            rw [List.getElem?_set_ne (fun z => hgi z.symm)]
            exact he'
          · rw [if_neg hsz] at q5
            exact q5.elim
      | _ => exact q5.elim
    | _ => exact q5.elim
  · left
    have hie : idx = ys.length := by omega
    subst hie
    refine ⟨im.2 rfl, ?_⟩
    rw [List.drop_length] at q3
    have na : ¬ AO A O a := fun z => R.there a z ha
    have nb : ∀ b ∈ as, ¬ AO A O b := fun b hb z => R.there b z (has b hb)
    have rp : Rep K (AO A O) H' (.lst (zss.map fun (zs : List Int) => Py.D.lst (zs.map Py.D.int))) (.ref a) := N'.rep na nb
    have R7 := (R'.fewer hA2).set hi rp
    have eσ : σ'.set i (some (V.ref a)) = σ' := by
      apply List.ext_getElem?
      intro j
      by_cases hj : i = j
      · subst hj
        rw [List.getElem?_set_self (List.getElem?_eq_some_iff.mp hσ').1, hσ']
      · rw [List.getElem?_set_ne hj]
    rw [eσ] at R7
    refine hgood _ q3 σ' H' R7 ⟨fun c hc => .inl hc, fun c u hc hq => ?_⟩
    refine mv.kp c u (s2 _ _ (s1 _ _ hc)) ?_
    rcases hq with hq | hq
    · refine .inl fun z => hq ?_
      rcases z with z | z
      · rcases hA3 c z with w | w
        · exact .inl w
        · rw [hc] at w
          cases w
      · exact .inr z
    · exact .inr hq
theorem c_scat {st1 st2 : Stmt} {rest : List Stmt} {v : SM} {vs : List Nat} (hx : ow.x = none) (hi : ow i = false) (hgi : i ≠ gi) (hgj : gj ∈ vs)
    (h1 : PS X st1 (tAsg (tLc (tI Gr X.K W ow n) (tGt X.K ow [gj] (gnm gj)) (tT X.K W0 ow yes) (tF X.K W0 ow (lstE argN)) vs) (gName i)))
    (h2 : PS X st2 (tFor (tI Mv X.K W ow it) (tGt X.K ow [gi] (gnm gi)) (tDrop (sbT X.K W ow i mj me))))
    (k : PSs X rest (tS3 fr X.K W ow oN oB v)) : PSs X (st1 :: st2 :: rest) (tS3 fr X.K W ow oN oB (seq (scat i gi n it mj me) v)) :=
  PSs.of (pss_cons h1 (pss_cons h2 k)) fun D σ H ⟨A, H0, O, en, R, q⟩ => by
    have q0 := Out.bind q
    unfold scat at q0
    obtain ⟨xs, hn, q1⟩ := noexc_of q0
    cases hc : decide (xs.length ≤ SZ) && decide (i < en.length) with
    | false =>
      rw [hc] at q1
      exact q1.elim
    | true =>
      rw [hc] at q1
      rw [Bool.and_eq_true, decide_eq_true_eq, decide_eq_true_eq] at hc
      show tLc (tI Gr X.K W ow n) (tGt X.K ow [gj] (gnm gj)) (tT X.K W0 ow yes) (tF X.K W0 ow (lstE argN)) vs σ H (fun x H1 => tFor (tI Mv X.K W ow it) (tGt X.K ow [gi] (gnm gi)) (tDrop (sbT X.K W ow i mj me)) { D with nx := tS3 fr X.K W ow oN oB v D } (σ.set i (some x)) H1)
      refine lc_nest hx hgj R hn hc.1 fun a as H1 ha has s1 N1 => ?_
      refine scat_for (D := { D with nx := tS3 fr X.K W ow oN oB v D }) hx hi hgi hc.2 R ha has s1 N1 q1 fun e' hg σ' H' R' mv => ⟨A, H0, O, e', R', hg.good fun f q2 => q2.to mv⟩
/-- y = [[] for .. in n] -/
theorem s_nest {y : Str} {py pos spos lp : Pos} {tg iter : Expr} {scope : Scope} {own : List (Str × Nat)} {j : Nat} (T : Ctx X W j) (hy : X.N[i]? = some y) (hyl : X.env.scope.names.lookup y = some .local)
    (hsw : swapsWith (.ListComp (.List [] lp) [⟨tg, iter, [], 0⟩] scope pos) (some (.Name y py)) spos.line X.env = pure true) (hi : PI X tg iter (tI Gr X.K W ow n)) (ok : BlkOk X.N X.env.scope scope own)
    (hg : ∀ (s : Shared) (H : Hp) (C : Addr) (cl : List (Str × Addr)) (fp : List Addr), Ctx (X.blk s H scope (compEnvC scope cl C X.env) fp) W0 j → PG (X.blk s H scope (compEnvC scope cl C X.env) fp) tg (tGt X.K ow [gj] (gnm gj)))
    (hs : ∀ x, foldedSetIterable iter X.env x = pure x := by intro _; rfl) :
    PS X (.Assign [.Name y py] (.ListComp (.List [] lp) [⟨tg, iter, [], 0⟩] scope pos) spos) (tAsg (tLc (tI Gr X.K W ow n) (tGt X.K ow [gj] (gnm gj)) (tT X.K W0 ow yes) (tF X.K W0 ow (lstE argN)) (own.map (·.2))) (gName i)) :=
  ps_setLc T.calm T.nd hy hyl hsw hi ok (fun s H C cl fp => hg s H C cl fp (T.blk ..)) (fun s H C cl fp => ts_nil) (fun s H C cl fp => f_lst xa_nil) hs
/-- for g in it: y[j].append(e) -/
theorem s_scat {tg iter o idx e : Expr} {apos cpos pos fpos ipos : Pos} (hp : PassesOwn (model X.prog X.w) X.A X.env X.xe) (hc : X.calm = true) (hi : PI X tg iter (tI Mv X.K W ow it)) (hg : PG X tg (tGt X.K ow [gi] (gnm gi)))
    (ho : PE X o (tVar i)) (hj : PE X idx (tE X.K W ow mj)) (he : PE X e (tE X.K W ow me)) (hix : PlainIx idx := by exact fun _ _ => rfl)
    (hs : ∀ x, foldedSetIterable iter X.env x = pure x := by intro _; rfl)
    (hbase : attributeBase (.Subscript o idx ipos) "append" X.env (eval (.Subscript o idx ipos) X.env) = eval (.Subscript o idx ipos) X.env := by rfl)
    (hfew : ((backTo cpos (starEach [e] X.env)).all (fun x => !x.1) && (backToKw cpos (keywordEach [] X.env)).all (fun x => x.1.isSome)
      && decide (([e] : List Expr).length + ([] : List Keyword).length + (if ([] : List Keyword).isEmpty then 0 else 1) < 30)) = true := by rfl)
    (hline : (apos.endLine == cpos.line) = true := by rfl) (hse : starEach [e] X.env = [(false, eval e X.env)] := by rfl)
    (hsw : swapsWith (.Call (.Attribute (.Subscript o idx ipos) "append" apos) [e] [] cpos) none pos.line X.env = pure false := by rfl) :
    PS X (.For tg iter [.Expr (.Call (.Attribute (.Subscript o idx ipos) "append" apos) [e] [] cpos) pos] [] fpos) (tFor (tI Mv X.K W ow it) (tGt X.K ow [gi] (gnm gi)) (tDrop (sbT X.K W ow i mj me))) :=
  ps_for hp hc hi hg (pss_one (ps_expr (pe_bm PySem.F.plainAttrs_list PySem.F.slot_list_append PySem.F.type_list_append mt_append (pe_ix ix_list ho hj hix) (pa_cons he pa_nil hse) hbase hfew hline hse (by rfl)) hsw)) hs
end
end Py
namespace Py
open PySem PySem.Spec PyProof.Rows L2
/-! ### enumerate over a zip -/
/-- a zip with its two flags -/
def ZipF (h : Heap) (z TI TO : Addr) (f0 : Value) (b : Bool) : Prop := h.get? z = some { cls := .type "zip", data := .fields #[f0, .bool b, .bool false, .ref TI, .ref TO] }
def Given (f0 : Value) : Prop := f0 = .none ∨ ∃ a : Nat, f0 = rawInt a
section
variable {prog : Program} {w : World} {A : Around} {E : Value → Shared → Prop} {s : Shared}
theorem any_alive {a : Addr} {Q : Option Obj → Shared → Prop} (h : Q (s.heap.get? a) s) : wpAny (model prog w) A (loadIfAlive a) Q E s := fun _ _ _ => h
theorem free_ask {z TI TO : Addr} {f0 : Value} {b : Bool} {Q : Bool → Shared → Prop} (hz : ZipF s.heap z TI TO f0 b) (hf : Given f0) (h1 : Q true s)
    (h2 : ∀ h', ZipF h' z TI TO f0 true → h'.objs.size = s.heap.objs.size → Heap.ExtBut z s.heap h' → Q false { s with heap := h' }) : wpAny (model prog w) A (Builtin.SmallTypes.ownedTupleIsFree (.ref z)) Q E s := by
  delta Builtin.SmallTypes.ownedTupleIsFree
  refine bfield hz rfl (x := f0) rfl ?_
  rcases hf with rfl | ⟨a, rfl⟩
  · exact wpAny_pure h1
  · change wpAny _ _ (loadIfAlive _ >>= _) _ _ _
    refine wpAny_bind (any_alive ?_)
    generalize s.heap.get? _ = g
    cases g with
    | none => exact wpAny_pure h1
    | some o =>
      change wpAny _ _ (field _ _ >>= _) _ _ _
      refine bfield hz rfl (x := .bool b) rfl ?_
      cases b with
      | true => exact wpAny_pure (h2 s.heap hz rfl fun _ _ _ q => q)
      | false =>
        change wpAny _ _ (setField _ _ _ >>= _) _ _ _
        exact wpAny_bind (wpAny_setField_rec hz (by simp) fun u1 c1 b1 => wpAny_pure (h2 u1 c1 b1.1 b1.extBut))
theorem zip_turnF {k1 k2 : Bool} {z TI TO i1 i2 l1 l2 : Addr} {n1 n2 : Nat} {xs ys : Array Value} {f0 : Value} {b : Bool} {Q : Value → Shared → Prop} (hh : A.handled = none) (D : ZipApart z TI TO i1 i2 l1 l2)
    (hz : ZipF s.heap z TI TO f0 b) (hf : Given f0) (hTI : IsPair s.heap TI (.ref i1) (.ref i2)) (hTO : ∃ a c, IsPair s.heap TO a c) (j1 : IAt k1 s.heap i1 l1 n1) (j2 : IAt k2 s.heap i2 l2 n2) (q1 : SAt k1 s.heap l1 xs) (q2 : SAt k2 s.heap l2 ys)
    (hI : ∀ x y h', xs[n1]? = some x → ys[n2]? = some y → (∃ f0' b', ZipF h' z TI TO f0' b' ∧ Given f0') → (∃ a c, IsPair h' TO a c) → IAt k1 h' i1 l1 (n1 + 1) → IAt k2 h' i2 l2 (n2 + 1) → IsPair h' s.heap.objs.size x y → h'.objs.size = s.heap.objs.size + 1 → Rest z TO i1 i2 s.heap h' → Q (.ref s.heap.objs.size) { s with heap := h' })
    (hE : ∀ h' e, xs[n1]? = none ∨ ys[n2]? = none → Rest z TO i1 i2 s.heap h' → (∃ o, h'.get? e = some o ∧ o.cls = .type "StopIteration") → E (.ref e) { s with heap := h' }) :
    wpAny (model prog w) A (Builtin.«zip.__next__» ⟨[.ref z], []⟩) (fun fin s' => ∃ v, fin = .done (.ret v) ∧ Q v s') E s := by
  obtain ⟨a0, c0, hTO⟩ := hTO
  change wpAny _ _ (field _ _ >>= _) _ _ _
  refine bfield hz rfl (x := .bool false) rfl ?_
  change wpAny _ _ (field _ _ >>= _) _ _ _
  refine bfield hz rfl (x := .ref TI) rfl (wpAny_bind (wpAny_seqItems hTI rfl ?_))
  change wpAny _ _ (Builtin.SmallTypes.ownedTupleIsFree _ >>= _) _ _ _
  refine wpAny_bind (free_ask hz hf ?_ fun u1 c1 z1 e1 => ?_)
  · rw [if_pos rfl]
    refine wpAny_bind (wpAny_rule (bfield hz rfl (x := .ref TO) rfl (wpAny_bind (wpAny_setField_rec hz (by simp) fun u1 c1 b1 => wpAny_bind ?_))))
    replace c1 : ZipF u1 z TI TO .ellipsis b := c1
    have e1 := b1.extBut
    rw [show (#[Value.ref i1, .ref i2] : Array Value).toList.zipIdx = [(.ref i1, 0), (.ref i2, 1)] from rfl]
    rw [List.forIn_cons]
    refine wpAny_bind (wpAny_bind (wpAny_onRaise ?_))
    change wpAny _ _ (Builtin.SmallTypes.nextOf _ >>= _) _ _ _
    have j1a : IAt k1 u1 i1 l1 n1 := j1.up fun o q => e1 _ _ D.i1z q
    have q1a : SAt k1 u1 l1 xs := q1.up fun o q => e1 _ _ D.l1z q
    cases hx : xs[n1]? with
    | none =>
      refine wpAny_bind (draw0 hh j1a q1a hx fun u2 e b2 ⟨oe, he, ce⟩ => ?_)
      have c2 : ZipF u2 z TI TO .ellipsis b := b2 _ _ D.i1z.symm c1
      have ne : e ≠ z := fun q => by
        rw [q] at he
        rw [ZipF, he] at c2
        cases c2
        simp at ce
      exact wpAny_setField_rec c2 (by simp) fun u3 _ b3 => hE u3 e (.inl hx) (fun c o n1 n2 n3 n4 q => b3.extBut _ _ n1 (b2 _ _ n3 (e1 _ _ n1 q))) ⟨oe, b3.extBut _ _ ne he, ce⟩
    | some x =>
      refine wpAny_bind (draw1 j1a q1a hx fun u2 j1b b2 => wpAny_pure ?_)
      have e2 := b2.extBut
      have t2 : IsPair u2 TO a0 c0 := e2 _ _ D.TOi1 (e1 _ _ D.TOz hTO)
      refine wpAny_bind (wpAny_seqItems t2 rfl (wpAny_bind (wpAny_updateSeq_pair t2 fun u3 t3 b3 => wpAny_bind (wpAny_letGo (wpAny_pure ?_)))))
      replace t3 : IsPair u3 TO x c0 := t3
      have e3 := b3.extBut
      dsimp only
      rw [List.forIn_cons]
      refine wpAny_bind (wpAny_bind (wpAny_onRaise ?_))
      change wpAny _ _ (Builtin.SmallTypes.nextOf _ >>= _) _ _ _
      have j2a : IAt k2 u3 i2 l2 n2 := j2.up fun o q => e3 _ _ D.TOi2.symm (e2 _ _ D.i12.symm (e1 _ _ D.i2z q))
      have q2a : SAt k2 u3 l2 ys := q2.up fun o q => e3 _ _ D.l2TO (e2 _ _ D.l2i1 (e1 _ _ D.l2z q))
      cases hy : ys[n2]? with
      | none =>
        refine wpAny_bind (draw0 hh j2a q2a hy fun u4 e b4 ⟨oe, he, ce⟩ => ?_)
        have c4 : ZipF u4 z TI TO .ellipsis b := b4 _ _ D.i2z.symm (e3 _ _ D.TOz.symm (e2 _ _ D.i1z.symm c1))
        have ne : e ≠ z := fun q => by
          rw [q] at he
          rw [ZipF, he] at c4
          cases c4
          simp at ce
        exact wpAny_setField_rec c4 (by simp) fun u5 _ b5 => hE u5 e (.inr hy) (fun c o n1 n2 n3 n4 q => b5.extBut _ _ n1 (b4 _ _ n4 (e3 _ _ n2 (e2 _ _ n3 (e1 _ _ n1 q))))) ⟨oe, b5.extBut _ _ ne he, ce⟩
      | some y =>
        refine wpAny_bind (draw1 j2a q2a hy fun u4 j2b b4 => wpAny_pure ?_)
        have e4 := b4.extBut
        have t4 : IsPair u4 TO x c0 := e4 _ _ D.TOi2 t3
        refine wpAny_bind (wpAny_seqItems t4 rfl (wpAny_bind (wpAny_updateSeq_pair t4 fun u5 t5 b5 => wpAny_bind (wpAny_letGo (wpAny_pure ?_)))))
        replace t5 : IsPair u5 TO x y := t5
        have e5 := b5.extBut
        dsimp only
        rw [List.forIn_nil]
        refine wpAny_pure (wpAny_bind (wpAny_seqItems t5 rfl (wpAny_bind (wpAny_newTuple ?_))))
        have sz : u5.objs.size = s.heap.objs.size := by rw [b5.1, b4.1, b3.1, b2.1, b1.1]
        have c5 : ZipF u5 z TI TO .ellipsis b := e5 _ _ D.TOz.symm (e4 _ _ D.i2z.symm (e3 _ _ D.TOz.symm (e2 _ _ D.i1z.symm c1)))
        have r5 : Rest z TO i1 i2 s.heap u5 := fun c o n1 n2 n3 n4 q => e5 _ _ n2 (e4 _ _ n4 (e3 _ _ n2 (e2 _ _ n3 (e1 _ _ n1 q))))
        have j1c : IAt k1 u5 i1 l1 (n1 + 1) := j1b.up fun o q => e5 _ _ D.TOi1.symm (e4 _ _ D.i12 (e3 _ _ D.TOi1.symm q))
        have j2c : IAt k2 u5 i2 l2 (n2 + 1) := j2b.up fun o q => e5 _ _ D.TOi2.symm q
        have zl : z < u5.objs.size := Heap.lt_size c5
        change wpAny _ _ (Builtin.SmallTypes.ownedTupleHandOut _ (.ref u5.objs.size) >>= _) _ _ _
        delta Builtin.SmallTypes.ownedTupleHandOut
        have c6 : ZipF (u5.push { cls := .type "tuple", data := .seq #[x, y] }) z TI TO .ellipsis b := Heap.get?_push_of_some _ c5
        refine wpAny_bind (wpAny_bind (wpAny_setField_rec c6 (by simp) fun u7 c7 b7 => ?_))
        replace c7 : ZipF u7 z TI TO (rawInt u5.objs.size) b := c7
        refine wpAny_setField_rec c7 (by simp) fun u8 c8 b8 => wpAny_pure ⟨_, rfl, ?_⟩
        replace c8 : ZipF u8 z TI TO (rawInt u5.objs.size) false := c8
        have up : ∀ c o, c ≠ z → u5.get? c = some o → u8.get? c = some o := fun c o n1 q => b8.extBut _ _ n1 (b7.extBut _ _ n1 (Heap.get?_push_of_some _ q))
        have t8 : IsPair u8 u5.objs.size x y := b8.extBut _ _ (Nat.ne_of_gt zl) (b7.extBut _ _ (Nat.ne_of_gt zl) (Heap.get?_push_size _ rfl))
        have z8 : u8.objs.size = s.heap.objs.size + 1 := by rw [b8.1, b7.1, Heap.size_push, sz]
        rw [sz] at c8 t8
        change Q (.ref u5.objs.size) _
        rw [sz]
        exact hI x y u8 hx hy ⟨_, _, c8, .inr ⟨_, rfl⟩⟩ ⟨_, _, up _ _ D.TOz t5⟩ (j1c.up fun o q => up _ o D.i1z q) (j2c.up fun o q => up _ o D.i2z q) t8 z8 fun c o n1 n2 n3 n4 q => up c o n1 (r5 c o n1 n2 n3 n4 q)
  · rw [if_neg (by decide)]
    change wpAny _ _ (forIn (#[Value.ref i1, .ref i2] : Array Value) _ _ >>= _) _ _ _
    rw [← Array.forIn_toList]
    change wpAny _ _ (forIn ([Value.ref i1, .ref i2] : List Value) _ _ >>= _) _ _ _
    rw [List.forIn_cons]
    refine wpAny_bind (wpAny_bind (wpAny_bind (wpAny_holding ?_)))
    change wpAny _ _ (Builtin.SmallTypes.nextOf _ >>= _) _ _ _
    have j1a : IAt k1 u1 i1 l1 n1 := j1.up fun o q => e1 _ _ D.i1z q
    have q1a : SAt k1 u1 l1 xs := q1.up fun o q => e1 _ _ D.l1z q
    cases hx : xs[n1]? with
    | none =>
      refine wpAny_bind (draw0 hh j1a q1a hx fun u2 e b2 oe => ?_)
      exact hE u2 e (.inl hx) (fun c o n1 n2 n3 n4 q => b2 _ _ n3 (e1 _ _ n1 q)) oe
    | some x =>
      refine wpAny_bind (draw1 j1a q1a hx fun u2 j1b b2 => wpAny_pure ?_)
      have e2 := b2.extBut
      refine wpAny_pure ?_
      dsimp only
      rw [List.forIn_cons]
      refine wpAny_bind (wpAny_bind (wpAny_holding ?_))
      change wpAny _ _ (Builtin.SmallTypes.nextOf _ >>= _) _ _ _
      have j2a : IAt k2 u2 i2 l2 n2 := j2.up fun o q => e2 _ _ D.i12.symm (e1 _ _ D.i2z q)
      have q2a : SAt k2 u2 l2 ys := q2.up fun o q => e2 _ _ D.l2i1 (e1 _ _ D.l2z q)
      cases hy : ys[n2]? with
      | none =>
        refine wpAny_bind (draw0 hh j2a q2a hy fun u4 e b4 oe => ?_)
        exact hE u4 e (.inr hy) (fun c o n1 n2 n3 n4 q => b4 _ _ n4 (e2 _ _ n3 (e1 _ _ n1 q))) oe
      | some y =>
        refine wpAny_bind (draw1 j2a q2a hy fun u4 j2b b4 => wpAny_pure ?_)
        have e4 := b4.extBut
        refine wpAny_pure ?_
        dsimp only
        rw [List.forIn_nil]
        refine wpAny_pure ?_
        change wpAny _ _ (newTuple [x, y] >>= _) _ _ _
        refine wpAny_bind (wpAny_newTuple (wpAny_pure ⟨_, rfl, ?_⟩))
        have sz : u4.objs.size = s.heap.objs.size := by rw [b4.1, b2.1, z1]
        have c4 : ZipF u4 z TI TO f0 true := e4 _ _ D.i2z.symm (e2 _ _ D.i1z.symm c1)
        have up : ∀ {c o}, u4.get? c = some o → (u4.push { cls := .type "tuple", data := .seq #[x, y] }).get? c = some o := fun q => Heap.get?_push_of_some _ q
        have t8 : IsPair (u4.push { cls := .type "tuple", data := .seq #[x, y] }) u4.objs.size x y := Heap.get?_push_size _ rfl
        rw [sz] at t8
        change Q (.ref u4.objs.size) _
        rw [sz]
        exact hI x y _ hx hy ⟨_, _, up c4, hf⟩ ⟨_, _, up (e4 _ _ D.TOi2 (e2 _ _ D.TOi1 (e1 _ _ D.TOz hTO)))⟩ (j1b.up fun o q => up (e4 _ _ D.i12 q)) (j2b.up fun o q => up q) t8 (by rw [Heap.size_push, sz]) fun c o n1 n2 n3 n4 q => up (e4 _ _ n4 (e2 _ _ n3 (e1 _ _ n1 q)))
end
end Py
namespace Py
open PySem PySem.Spec PyProof.Rows L2
/-! ### enumerate over a zip: a turn -/
section
variable {prog : Program} {w : World} {A : Around} {E : Value → Shared → Prop} {s : Shared}
/-- what stays while an enumerate over a zip draws -/
def RestE (e z TO i1 i2 : Addr) (h h' : Heap) : Prop := ∀ c o, c ≠ e → c ≠ z → c ≠ TO → c ≠ i1 → c ≠ i2 → h.get? c = some o → h'.get? c = some o
structure EnumApart (e z TI TO i1 i2 l1 l2 : Addr) : Prop where
  ez : e ≠ z
  eTI : e ≠ TI
  eTO : e ≠ TO
  ei1 : e ≠ i1
  ei2 : e ≠ i2
  el1 : e ≠ l1
  el2 : e ≠ l2
theorem enumz_next {k1 k2 : Bool} {e z TI TO i1 i2 l1 l2 : Addr} {n1 n2 : Nat} {xs ys : Array Value} {f0 old : Value} {b : Bool} {i : Nat} {Q : Option Value → Shared → Prop} (hh : A.handled = none) (hh1 : A.in1.handled = none) (D : ZipApart z TI TO i1 i2 l1 l2) (DE : EnumApart e z TI TO i1 i2 l1 l2)
    (he : IsEnum s.heap e z ((i : Nat) : Int) old) (hz : ZipF s.heap z TI TO f0 b) (hf : Given f0) (hTI : IsPair s.heap TI (.ref i1) (.ref i2)) (hTO : ∃ a c, IsPair s.heap TO a c) (j1 : IAt k1 s.heap i1 l1 n1) (j2 : IAt k2 s.heap i2 l2 n2) (q1 : SAt k1 s.heap l1 xs) (q2 : SAt k2 s.heap l2 ys)
    (hI : ∀ x y h' tk, xs[n1]? = some x → ys[n2]? = some y → IsEnumOut h' e z ((i : Nat) + 1 : Int) (.ref s.heap.objs.size) (s.heap.objs.size + 1) → (∃ f0' b', ZipF h' z TI TO f0' b' ∧ Given f0') → (∃ a c, IsPair h' TO a c) → IAt k1 h' i1 l1 (n1 + 1) → IAt k2 h' i2 l2 (n2 + 1) → IsPair h' s.heap.objs.size x y → IsPair h' (s.heap.objs.size + 1) (.int (i : Nat) tk) (.ref s.heap.objs.size) → RestE e z TO i1 i2 s.heap h' → Q (some (.ref (s.heap.objs.size + 1))) { s with heap := h', toks := tk + 1 })
    (hE : ∀ h', xs[n1]? = none ∨ ys[n2]? = none → Rest z TO i1 i2 s.heap h' → Q none { s with heap := h' }) : wpAny (model prog w) A (pyNext (.ref e)) Q E s := by
  have ty : s.TypeIs (.ref e) "enumerate" := ⟨_, he, rfl⟩
  have tz : s.TypeIs (.ref z) "zip" := ⟨_, hz, rfl⟩
  delta pyNext
  refine wpAny_bind (wpAny_attempt (wpAny_callSpecial?_slot (name := Str.ofString "__next__") ty F.slot_enumerate_next (wpAny_call_entry F.slot_enumerate_next ty F.entry_enumerate_next ?_ (F.args_enumerate_next_1 _))))
  change wpAny _ _ (field _ _ >>= _) _ _ _
  refine bfield he rfl (x := .ref z) rfl ?_
  change wpAny _ _ (Builtin.SmallTypes.nextOf _ >>= _) _ _ _
  delta Builtin.SmallTypes.nextOf
  refine wpAny_bind (wpAny_bind (wpAny_callSpecial?_slot (name := Str.ofString "__next__") tz F.slot_zip_next (wpAny_call_entry F.slot_zip_next tz F.entry_zip_next ?_ (F.args_zip_next_1 _))))
  refine zip_turnF hh1 D hz hf hTI hTO j1 j2 q1 q2 (fun x y u1 a1 a2 ⟨f1, b1, c1, g1⟩ t1 m1 m2 pr sz rs => wpAny_pure ?_) fun u1 ex hn rs ⟨o, ho, hc⟩ => ?_
  · have he1 : IsEnum u1 e z ((i : Nat) : Int) old := rs _ _ DE.ez DE.eTO DE.ei1 DE.ei2 he
    have t1' := t1
    obtain ⟨a2', c2', t1''⟩ := t1
    change wpAny _ _ (field _ _ >>= _) _ _ _
    refine bfield he1 rfl (x := rawInt ((i : Nat) : Int)) rfl ?_
    change wpAny _ _ (field _ _ >>= _) _ _ _
    refine bfield he1 rfl (x := .none) rfl ?_
    change wpAny _ _ (mkInt _ >>= _) _ _ _
    refine wpAny_bind (wpAny_mkInt ?_)
    change wpAny _ _ (setField _ _ _ >>= _) _ _ _
    refine wpAny_bind (wpAny_setField_rec he1 (by simp) fun u2 c2 b2 => ?_)
    refine wpAny_bind (wpAny_setField_rec c2 (by simp) fun u3 c3 b3 => ?_)
    replace c3 : IsEnum u3 e z ((i : Nat) + 1 : Int) old := c3
    refine wpAny_bind (wpAny_newTuple ?_)
    have s3 : u3.objs.size = s.heap.objs.size + 1 := by rw [b3.1, b2.1, sz]
    have el : e < u3.objs.size := Heap.lt_size c3
    have c4 : IsEnum (u3.push { cls := .type "tuple", data := .seq #[.int ((i : Nat) : Int) s.toks, .ref s.heap.objs.size] }) e z ((i : Nat) + 1 : Int) old := Heap.get?_push_of_some _ c3
    change wpAny _ _ (Builtin.SmallTypes.ownedTupleIsFree _ >>= _) _ _ _
    delta Builtin.SmallTypes.ownedTupleIsFree
    refine wpAny_bind (bfield c4 rfl (x := .none) rfl (wpAny_pure ?_))
    rw [if_pos rfl]
    refine wpAny_bind (wpAny_rule (bfield c4 rfl (x := old) rfl (wpAny_bind (wpAny_setField_rec c4 (by simp) fun u5 c5 b5 => wpAny_bind ?_))))
    delta Builtin.SmallTypes.ownedTupleHandOut
    refine wpAny_bind (wpAny_setField_rec c5 (by simp) fun u6 c6 b6 => ?_)
    refine wpAny_setField_rec c6 (by simp) fun u7 c7 b7 => wpAny_bind (wpAny_letGo (wpAny_pure ⟨_, rfl, wpAny_pure ?_⟩))
    have up : ∀ c o, c ≠ e → u1.get? c = some o → u7.get? c = some o := fun c o n q => b7.extBut _ _ n (b6.extBut _ _ n (b5.extBut _ _ n (Heap.get?_push_of_some _ (b3.extBut _ _ n (b2.extBut _ _ n q)))))
    have n7 : s.heap.objs.size ≠ e := Nat.ne_of_gt (Heap.lt_size he)
    have n8 : s.heap.objs.size + 1 ≠ e := Nat.ne_of_gt (Nat.lt_succ_of_lt (Heap.lt_size he))
    have p8 : IsPair u7 (s.heap.objs.size + 1) (.int ((i : Nat) : Int) s.toks) (.ref s.heap.objs.size) := by
      have := Heap.get?_push_size u3 (o := { cls := .type "tuple", data := .seq #[.int ((i : Nat) : Int) s.toks, .ref s.heap.objs.size] }) rfl
      rw [s3] at this
      exact b7.extBut _ _ n8 (b6.extBut _ _ n8 (b5.extBut _ _ n8 this))
    replace c7 : IsEnumOut u7 e z ((i : Nat) + 1 : Int) (.ref s.heap.objs.size) u3.objs.size := c7
    rw [s3] at c7
    change Q (some (.ref u3.objs.size)) _
    rw [s3]
    exact hI x y u7 s.toks a1 a2 c7 ⟨f1, b1, up _ _ DE.ez.symm c1, g1⟩ ⟨a2', c2', up _ _ DE.eTO.symm t1''⟩ (m1.up fun o q => up _ o DE.ei1.symm q) (m2.up fun o q => up _ o DE.ei2.symm q) (up _ _ n7 pr) p8 fun c o n1 n2 n3 n4 n5 q => up c o n1 (rs c o n2 n3 n4 n5 q)
  · exact wpAny_bind (wpAny_isInstance (T := "StopIteration") (b := true) ⟨o, ho, hc⟩ isSubtype_stop (wpAny_pure (hE u1 hn rs)))
end
end Py
namespace PySem
open Builtin
theorem py_en_newz (z TI TO : Addr) :
    Meets (Builtin.«enumerate.__new__» ⟨[.type "enumerate", .ref z], []⟩) (fun _ R s => IsZip s.heap z TI TO .none ∧
      R (.ok (.ret (.ref s.heap.objs.size))) { s with heap := s.heap.push { cls := .type "enumerate", data := .fields #[.none, .bool false, .ref z, rawInt 0, .none, .none] } }) :=
  .of_wp fun prog w A R s h => by
    obtain ⟨hp, g, d, tk, os⟩ := s
    obtain ⟨h1, h⟩ := h
    have hsub := sub_enumerate
    have iter1 : ∀ {A' : Around} {E : Value → Shared → Prop} {Q : Value → Shared → Prop}, Q (.ref z) ⟨hp, g, d, tk, os⟩ → wpAny (model prog w) A' (pyIter (.ref z)) Q E ⟨hp, g, d, tk, os⟩ :=
      fun q => wpAny_pyIter_zip (s := ⟨hp, g, d, tk, os⟩) h1 q
    wp_walk using iter1
    refine wpAny_stack_any fun st => wpAny_pure ?_
    split
    · rename_i c _ _ _ _ _
      cases (c == Value.type "enumerate")
      · wp_walk using iter1
        exact ⟨_, rfl, h⟩
      · wp_walk using iter1
        exact ⟨_, rfl, h⟩
    · wp_walk using iter1
      exact ⟨_, rfl, h⟩
theorem py_en_callz {prog : Program} {w : World} {A : Around} {E : Value → Shared → Prop} {s : Shared} {z TI TO : Addr} {Q : Value → Shared → Prop} (h1 : IsZip s.heap z TI TO .none)
    (h : ∀ h', IsEnum h' s.heap.objs.size z 0 .none → (∀ b o, s.heap.get? b = some o → h'.get? b = some o) → Q (.ref s.heap.objs.size) { s with heap := h' }) :
    wpAny (model prog w) A (call (.type "enumerate") [.ref z]) Q E s := by
  refine callType_new F.called_enumerate (by decide) (F.typeCall_enumerate_1 _) (F.newCall_enumerate_1 _) (fun obj => F.args_object_init_2 obj _) F.entry_enumerate_new (py_en_newz z TI TO) ⟨h1, ?_⟩
  show _ ∧ _
  have he : IsEnum (s.heap.push { cls := .type "enumerate", data := .fields #[.none, .bool false, .ref z, rawInt 0, .none, .none] }) s.heap.objs.size z 0 .none := Heap.get?_push_size s.heap rfl
  exact ⟨⟨_, he, rfl⟩, h _ he fun b o x => Heap.get?_push_of_some _ x⟩
end PySem
namespace Py
open PySem PySem.Spec PyProof.Rows L2
theorem spl1 {prog : Program} {w : World} {A : Around} {E : Value → Shared → Prop} {s : Shared} {env : PySem.Env} {e : Expr} {pos : Pos} {Q : List Value → Shared → Prop} (hs : starEach [e] env = [(false, eval e env)]) (h : wpAny (model prog w) A (eval e env) (fun v s1 => Q [v] s1) E s) : wpAny (model prog w) A (spliced (backTo pos (starEach [e] env))) Q E s := by
  rw [hs]
  change wpAny _ _ (spliced [(false, _)]) _ _ _
  change wpAny _ _ (_ >>= _) _ _ _
  refine wpAny_bind (thn h fun v s1 q => ?_)
  exact wpAny_bind (wpAny_pure (wpAny_bind (wpAny_holding (wpAny_pure (wpAny_pure q)))))
def Ieq (K : Frag) (k1 k2 : Bool) (a b : Addr) : It :=
  ⟨fun i H => ∃ (xs ys : List V) (x y : V), SqK k1 K H a xs ∧ SqK k2 K H b ys ∧ xs[i]? = some x ∧ ys[i]? = some y,
   fun i H v H' => ∃ T U x y, v = .ref U ∧ H T = none ∧ (upd H T (.tup [x, y])) U = none ∧ H' = upd (upd H T (.tup [x, y])) U (.tup [.int (i : Nat), .ref T]) ∧ (∀ xs, SqK k1 K H a xs → xs[i]? = some x) ∧ ∀ ys, SqK k2 K H b ys → ys[i]? = some y,
   fun i H => ∃ xs ys : List V, SqK k1 K H a xs ∧ SqK k2 K H b ys ∧ (xs.length ≤ i ∨ ys.length ≤ i)⟩
theorem enumz_Turn {P : Program} {w : World} {K : Frag} {elts : List Expr} {kk : Nat} {tpos : Pos} {k1 k2 : Bool} {a b e z TI TO i1 i2 : Addr} (D : ZipApart z TI TO i1 i2 a b) (DE : EnumApart e z TI TO i1 i2 a b) :
    Turn P w K (.Tuple elts kk tpos) (Ieq K k1 k2 a b) [e, z, TI, TO, i1, i2] e (fun i h => (∃ old, IsEnum h e z ((i : Nat) : Int) old) ∧ (∃ f0 b, ZipF h z TI TO f0 b ∧ Given f0) ∧ IsPair h TI (.ref i1) (.ref i2) ∧ (∃ x y, IsPair h TO x y) ∧ IAt k1 h i1 a i ∧ IAt k2 h i2 b i) := by
  have six : ∀ {c : Addr}, c ∈ [e, z, TI, TO, i1, i2] → c = e ∨ c = z ∨ c = TI ∨ c = TO ∨ c = i1 ∨ c = i2 := fun {c} h => by simpa using h
  have nin : ∀ {c : Addr}, c ∉ [e, z, TI, TO, i1, i2] → c ≠ e ∧ c ≠ z ∧ c ≠ TO ∧ c ≠ i1 ∧ c ≠ i2 := fun {c} h => ⟨fun q => h (by simp [q]), fun q => h (by simp [q]), fun q => h (by simp [q]), fun q => h (by simp [q]), fun q => h (by simp [q])⟩
  refine ⟨List.mem_cons_self, fun i h st c hc => ?_, fun i h h' st k => ?_, ?_, ?_, fun A i s Q E st h => ?_⟩
  · obtain ⟨⟨old, he⟩, ⟨f0, bb, hz, hf⟩, hTI, ⟨x, y, hTO⟩, h1, h2⟩ := st
    rcases six hc with rfl | rfl | rfl | rfl | rfl | rfl
    · exact ⟨_, he, nofun⟩
    · exact ⟨_, hz, nofun⟩
    · exact ⟨_, hTI, nofun⟩
    · exact ⟨_, hTO, nofun⟩
    · exact h1.some
    · exact h2.some
  · obtain ⟨⟨old, he⟩, ⟨f0, bb, hz, hf⟩, hTI, ⟨x, y, hTO⟩, h1, h2⟩ := st
    exact ⟨⟨old, k e (by simp) _ he⟩, ⟨f0, bb, k z (by simp) _ hz, hf⟩, k TI (by simp) _ hTI, ⟨x, y, k TO (by simp) _ hTO⟩, h1.up (k i1 (by simp)), h2.up (k i2 (by simp))⟩
  · intro X hP hw hK hc i pins s σ H E I hf st hg
    subst hP hw hK
    obtain ⟨⟨old, he⟩, ⟨f0, bb, hz, hgv⟩, hTI, ⟨x0, y0, hTO⟩, h1, h2⟩ := st
    obtain ⟨xs, ys, x, y, qx, qy, hx, hy⟩ := hg
    obtain ⟨its, rv, p1, _⟩ := qx.at I
    obtain ⟨its2, rv2, p2, _⟩ := qy.at I
    obtain ⟨u, hu, ru⟩ := rv.get hx
    obtain ⟨u2, hu2, ru2⟩ := rv2.get hy
    have le : e < s.heap.objs.size := Heap.lt_size he
    refine enumz_next (I.ok.hd hc) (I.ok.hd hc) D DE he hz hgv hTI ⟨_, _, hTO⟩ h1 h2 p1 p2 (fun v v2 h' tk a1 a2 eo c1 t1 m1 m2 pr pu rs => ?_) fun h' hn _ => ?_
    · have e1 : v = u := by simpa [hu] using a1.symm
      have e2 : v2 = u2 := by simpa [hu2] using a2.symm
      subst e1 e2
      refine ⟨_, rfl, wpAny_letOwnedTupleGo_enum (s := { s with heap := h', toks := tk + 1 }) eo fun h'' he' sb => ?_⟩
      have nT : s.heap.objs.size ≠ e := Nat.ne_of_gt le
      have nU : s.heap.objs.size + 1 ≠ e := Nat.ne_of_gt (Nat.lt_succ_of_lt le)
      have pr2 : h''.get? s.heap.objs.size = some (zt v v2) := (sb.2 _ nT).trans pr
      have pu2 : h''.get? (s.heap.objs.size + 1) = some (zt (.int ((i : Nat) : Int) tk) (.ref s.heap.objs.size)) := (sb.2 _ nU).trans pu
      have lt6 : ∀ c ∈ [e, z, TI, TO, i1, i2], c < s.heap.objs.size := fun c hc => by
        rcases six hc with rfl | rfl | rfl | rfl | rfl | rfl
        · exact le
        · exact Heap.lt_size hz
        · exact Heap.lt_size hTI
        · exact Heap.lt_size hTO
        · obtain ⟨_, q, _⟩ := h1.some; exact Heap.lt_size q
        · obtain ⟨_, q, _⟩ := h2.some; exact Heap.lt_size q
      have all : ∀ c o, c ∉ [e, z, TI, TO, i1, i2] → s.heap.get? c = some o → h''.get? c = some o := fun c o hb q => by
        obtain ⟨n0, n1, n2, n3, n4⟩ := nin hb
        exact (sb.2 c n0).trans (rs c o n0 n1 n2 n3 n4 q)
      have hm : (s.heap.push (zt v v2)).get? s.heap.objs.size = some (zt v v2) := Heap.get?_push_size s.heap rfl
      have new1 : ObjOk X.prog X.w (upd H s.heap.objs.size (.tup [x, y])) (s.heap.push (zt v v2)) s.heap.objs.size (.tup [x, y]) := by
        refine ⟨?_, [v, v2], .cons ru (.cons ru2 .nil), ⟨_, hm, rfl, _, rfl⟩⟩
        change 2 ≤ sizeLine
        decide
      have I1 : Inv X pins σ (upd H s.heap.objs.size (.tup [x, y])) { s with heap := s.heap.push (zt v v2) } := I.turnedNew (t' := s.toks) (ch := []) (fun c o _ q => Heap.get?_push_of_some _ q) (fun c hc => by cases hc) (Nat.le_refl _) new1
      have hfU : (upd H s.heap.objs.size (.tup [x, y])) (s.heap.objs.size + 1) = none := by
        rw [upd_ne (Nat.succ_ne_self _)]
        exact I.hok.fresh (Nat.le_succ _)
      have new2 : ObjOk X.prog X.w (upd (upd H s.heap.objs.size (.tup [x, y])) (s.heap.objs.size + 1) (.tup [.int (i : Nat), .ref s.heap.objs.size])) h'' (s.heap.objs.size + 1) (.tup [.int (i : Nat), .ref s.heap.objs.size]) := by
        refine ⟨?_, [.int ((i : Nat) : Int) tk, .ref s.heap.objs.size], .cons ⟨_, rfl⟩ (.cons rfl .nil), ⟨_, pu2, rfl, _, rfl⟩⟩
        change 2 ≤ sizeLine
        decide
      have I2 : Inv X pins σ (upd (upd H s.heap.objs.size (.tup [x, y])) (s.heap.objs.size + 1) (.tup [.int (i : Nat), .ref s.heap.objs.size])) { s with heap := h'', toks := tk + 1 } :=
        I1.turnedNew (t' := tk + 1) (ch := [e, z, TI, TO, i1, i2]) (fun c o hb q => by
          by_cases ec : c = s.heap.objs.size
          · subst ec
            have q2 : some (zt v v2) = some o := hm.symm.trans q
            rw [← q2]
            exact pr2
          · refine all c o hb ?_
            have q3 : (s.heap.push (zt v v2)).get? c = some o := q
            rw [Heap.get?_push_ne s.heap c _ ec] at q3
            exact q3) (fun c hc => ⟨by rw [upd_ne (Nat.ne_of_lt (lt6 c hc))]; exact (hf c hc).1, (hf c hc).2⟩) (by show (s.heap.push (zt v v2)).objs.size ≤ _; rw [Heap.size_push]; exact Nat.le_refl _) new2
      have mv : ∀ c ∈ [z, TI, TO, i1, i2], c ≠ e → h''.get? c = h'.get? c := fun c _ n => sb.2 c n
      obtain ⟨f1, b1, c1, g1⟩ := c1
      obtain ⟨x1, y1, t1⟩ := t1
      refine ⟨.ref (s.heap.objs.size + 1), _, I2, rfl, ⟨s.heap.objs.size, s.heap.objs.size + 1, x, y, rfl, I.hok.fresh (Nat.le_refl _), hfU, rfl, fun l hl => by rw [hl.inj I qx]; exact hx, fun l hl => by rw [hl.inj I qy]; exact hy⟩, ⟨⟨.ref s.heap.objs.size, ?_⟩, ⟨f1, b1, (sb.2 _ DE.ez.symm).trans c1, g1⟩, ?_, ⟨x1, y1, (sb.2 _ DE.eTO.symm).trans t1⟩, m1.up fun o q => (sb.2 _ DE.ei1.symm).trans q, m2.up fun o q => (sb.2 _ DE.ei2.symm).trans q⟩, fun c hcm => ?_⟩
      · have e1 : ((i + 1 : Nat) : Int) = (i : Int) + 1 := by omega
        rw [e1]
        exact he'
      · exact (sb.2 _ DE.eTI.symm).trans (rs _ _ DE.eTI.symm D.TIz D.TITO D.TIi1 D.TIi2 hTI)
      · have := lt6 c hcm
        rw [upd_ne (Nat.ne_of_lt (Nat.lt_succ_of_lt this)), upd_ne (Nat.ne_of_lt this)]
        exact (hf c hcm).1
    · rcases hn with hn | hn
      · rw [show its.toArray[i]? = some u by simpa using hu] at hn
        cases hn
      · rw [show its2.toArray[i]? = some u2 by simpa using hu2] at hn
        cases hn
  · intro X hP hw hK hc i pins s σ H E I hf st hg
    subst hP hw hK
    obtain ⟨⟨old, he⟩, ⟨f0, bb, hz, hgv⟩, hTI, ⟨x0, y0, hTO⟩, h1, h2⟩ := st
    obtain ⟨xs, ys, qx, qy, stop⟩ := hg
    obtain ⟨its, rv, p1, _⟩ := qx.at I
    obtain ⟨its2, rv2, p2, _⟩ := qy.at I
    have n1 := rv.length
    have n2 := rv2.length
    refine enumz_next (I.ok.hd hc) (I.ok.hd hc) D DE he hz hgv hTI ⟨_, _, hTO⟩ h1 h2 p1 p2 (fun v v2 h' tk a1 a2 _ _ _ _ _ _ _ _ => ?_) fun h' _ rs => ⟨rfl, I.turnedL (t' := s.toks) (ch := [e, z, TI, TO, i1, i2]) (fun c o hb q => ?_) hf⟩
    · have b1 : i < its.length := by
        simp at a1
        exact (List.getElem?_eq_some_iff.mp a1).1
      have b2 : i < its2.length := by
        simp at a2
        exact (List.getElem?_eq_some_iff.mp a2).1
      omega
    · obtain ⟨m0, m1, m2, m3, m4⟩ := nin hb
      exact rs c o m1 m2 m3 m4 q
  · obtain ⟨⟨_, he⟩, _⟩ := st
    exact wpAny_pyIter_enum he h
end Py
namespace Py
open PySem PySem.Spec PyProof.Rows L2
def iEnumq (K : Frag) (ta : TA) : TI := fun σ H R => ta σ H fun vs H1 => ∃ k1 k2 a b xs ys, vs = [.ref a, .ref b] ∧ SqK k1 K H1 a xs ∧ SqK k2 K H1 b ys ∧ R (Ieq K k1 k2 a b) H1
theorem pi_enumq {X : Cx} {e e2 : Expr} {ta : TA} {p p2 pos pos2 tpos : Pos} {elts : List Expr} {kk : Nat} (hg : Gl X "enumerate") (hm : X.mg "enumerate" = none) (hg2 : Gl X "zip") (hm2 : X.mg "zip" = none) (ha : PA X [e, e2] ta)
    (hs : starEach [e, e2] X.env = (false, eval e X.env) :: starEach [e2] X.env := by rfl) (hpl : (backTo pos2 (starEach [e2] X.env)).any (·.1) = false := by rfl) (hs3 : starEach [.Call (.Name "zip" p2) [e, e2] [] pos2] X.env = [(false, eval (.Call (.Name "zip" p2) [e, e2] [] pos2) X.env)] := by rfl) : PI X (.Tuple elts kk tpos) (.Call (.Name "enumerate" p) [.Call (.Name "zip" p2) [e, e2] [] pos2] [] pos) (iEnumq X.K ta) := ⟨fun pins s σ H R I h => by
  refine Call_ (ld_blt I hg hm PyProof.Rows.boot_enumerate (PyProof.Rows.callWith_type1 (spl1 hs3 ?_) hs3 rfl))
  refine Call_ (ld_blt I hg2 hm2 PyProof.Rows.boot_zip (PyProof.Rows.callWith_type1 (thn (ha.run pos2 pins s σ H _ I h) fun us s1 ⟨vs, H1, I1, r1, k1, k2, a, b, xs, ys, ex, qx, qy, q⟩ => ?_) hs hpl))
  subst ex
  cases r1 with
  | cons r rr =>
    cases rr with
    | cons r' rr =>
      cases rr
      cases r
      cases r'
      obtain ⟨its, _, p1, l1⟩ := qx.at I1
      obtain ⟨its2, _, p2, l2⟩ := qy.at I1
      refine zip_call p1 p2 fun h' n hn c1 t1 t2 m1 m2 up => ?_
      refine py_en_callz (s := { s1 with heap := h' }) c1 fun h2 he up2 => wpAny_pyIter_enum he ?_
      have I2 : Inv X pins σ H1 { s1 with heap := h2 } := I1.kept (t' := s1.toks) fun c o z => up2 c o (up c o z)
      have z5 : n + 4 < h'.objs.size := Heap.lt_size c1
      have z3 : n + 2 < h'.objs.size := Heap.lt_size t1
      have z4 : n + 3 < h'.objs.size := Heap.lt_size t2
      have z1 : n < h'.objs.size := by omega
      have z2 : n + 1 < h'.objs.size := by omega
      have D := PySem.W.ktu_apart n a b (by rw [hn]; exact l1) (by rw [hn]; exact l2)
      have zz : s1.heap.objs.size < h'.objs.size := by rw [← hn]; exact z1
      have la : a < h'.objs.size := Nat.lt_trans l1 zz
      have lb : b < h'.objs.size := Nat.lt_trans l2 zz
      have DE : EnumApart h'.objs.size (n + 4) (n + 2) (n + 3) n (n + 1) a b := ⟨Nat.ne_of_gt z5, Nat.ne_of_gt z3, Nat.ne_of_gt z4, Nat.ne_of_gt z1, Nat.ne_of_gt z2, Nat.ne_of_gt la, Nat.ne_of_gt lb⟩
      refine ⟨h'.objs.size, [h'.objs.size, n + 4, n + 2, n + 3, n, n + 1], _, _, H1, rfl, I2, enumz_Turn D DE, ⟨⟨_, he⟩, ⟨_, false, up2 _ _ c1, .inl rfl⟩, up2 _ _ t1, ⟨_, _, up2 _ _ t2⟩, m1.up fun o z => up2 _ o z, m2.up fun o z => up2 _ o z⟩, fun c hc => ?_, q⟩
      have le : s1.heap.objs.size ≤ c := by
        have : c = h'.objs.size ∨ c = n + 4 ∨ c = n + 2 ∨ c = n + 3 ∨ c = n ∨ c = n + 1 := by simpa using hc
        rcases this with q | q | q | q | q | q <;> rw [q]
        · exact Nat.le_of_lt zz
        · rw [← hn]; exact Nat.le_add_right _ _
        · rw [← hn]; exact Nat.le_add_right _ _
        · rw [← hn]; exact Nat.le_add_right _ _
        · rw [← hn]; exact Nat.le_refl _
        · rw [← hn]; exact Nat.le_add_right _ _
      exact I1.fpOk le (I1.hok.fresh le)⟩
/-! ### enumerate over a zip in the mirror -/
theorem itm_enumq {K : Frag} {A : AS} {H : Hp} {k1 k2 : Bool} {a b : Addr} {ds es : List D} {vs us : List V} (q : ∀ A2 H2, Mv A H A2 H2 → SqK k1 K H2 a vs) (q' : ∀ A2 H2, Mv A H A2 H2 → SqK k2 K H2 b us) (r : RepL K A H ds vs) (r' : RepL K A H es us) : Itm Mv K A (Ieq K k1 k2 a b) (enumL 0 ((ds.zip es).map fun p => .tup [p.1, p.2])) H := fun i A2 H2 m => by
  have q2 := q A2 H2 m
  have q2' := q' A2 H2 m
  have r2 := RepL.move m ds vs r
  have r2' := RepL.move m es us r'
  rw [enumL_len, List.length_map, List.length_zip]
  refine ⟨fun hi => ?_, fun hi => ⟨vs, us, q2, q2', by rw [← r.length, ← r'.length]; omega⟩⟩
  have h1 : i < ds.length := by omega
  have h2 : i < es.length := by omega
  obtain ⟨v, hv, rv⟩ := r2.get (i := i) (List.getElem?_eq_getElem h1)
  obtain ⟨u, hu, ru⟩ := r2'.get (i := i) (List.getElem?_eq_getElem h2)
  refine ⟨⟨vs, us, v, u, q2, q2', hv, hu⟩, fun x H3 ⟨T, U, x', y', e1, hn, hn2, e2, k1, k2⟩ => ?_⟩
  subst e1 e2
  have e3 := k1 vs q2
  have e4 := k2 us q2'
  rw [hv] at e3
  rw [hu] at e4
  cases e3
  cases e4
  obtain ⟨s1, r1⟩ := zip_item hn rv ru
  obtain ⟨s2, r3⟩ := enum_item (i := i) hn2 r1
  exact ⟨s1.trans s2, _, enumL_get (zip_get (f := fun p : D × D => D.tup [p.1, p.2]) (List.getElem?_eq_getElem h1) (List.getElem?_eq_getElem h2)), r3⟩
section
variable {X : Cx} {W : WX} {ow : Ow} {a b : Expr} {elts : List Expr} {ma mb : EM} {pos pos2 p p2 tpos : Pos} {kk : Nat}
theorem i_enumzip (hg : Gl X "enumerate") (hm : X.mg "enumerate" = none) (hg2 : Gl X "zip") (hm2 : X.mg "zip" = none) (ha : PE X a (tE X.K W ow ma)) (hb : PE X b (tE X.K W ow mb)) (hs : starEach [a, b] X.env = (false, eval a X.env) :: starEach [b] X.env := by rfl) (hs2 : starEach [b] X.env = [(false, eval b X.env)] := by rfl) (hpl : (backTo pos2 (starEach [b] X.env)).any (·.1) = false := by rfl) (hs3 : starEach [.Call (.Name "zip" p2) [a, b] [] pos2] X.env = [(false, eval (.Call (.Name "zip" p2) [a, b] [] pos2) X.env)] := by rfl) :
    PI X (.Tuple elts kk tpos) (.Call (.Name "enumerate" p) [.Call (.Name "zip" p2) [a, b] [] pos2] [] pos) (tI Mv X.K W ow (ienumM (izip ma mb))) :=
  PI.of (pi_enumq hg hm hg2 hm2 (pa_cons ha (pa_cons hb pa_nil hs2) hs) hs hpl hs3) fun σ H R' ⟨A, H0, O, en, R, q⟩ => ⟨A, H0, O, en, R, (Out.bind (Out.bind q)).good fun d q1 v H1 s1 r1 => ⟨A, H0, O, en, R.to s1, ((Out.bind q1).to s1).good fun d2 q2 v2 H2 s2 r2 => by
    have r1' := Rep.move (Mv.same s2) _ _ r1
    cases e1 : seqOf d with
    | none =>
      unfold ozip at q2
      rw [e1] at q2
      exact q2.elim
    | some p =>
      cases e2 : seqOf d2 with
      | none =>
        unfold ozip at q2
        rw [e1, e2] at q2
        exact q2.elim
      | some p2 =>
        obtain ⟨k1, xs⟩ := p
        obtain ⟨k2, ys⟩ := p2
        unfold ozip at q2
        rw [e1, e2] at q2
        obtain ⟨x, vs, rfl, h, r⟩ := rep_sq e1 r1'
        obtain ⟨y, us, rfl, h', r'⟩ := rep_sq e2 r2
        exact ⟨k1, k2, x, y, vs, us, rfl, h _ _ (Mv.same (Same.refl _)), h' _ _ (Mv.same (Same.refl _)), q2 _ H2 (s1.trans s2) (itm_enumq h h' r r')⟩⟩⟩
end
end Py
/-! list(zip(*x)): zip over any number of lists and tuples of one length. -/
namespace Py
open PySem PySem.Spec PyProof.Rows L2
abbrev Col := Bool × Nat × Array Value
def refs (n0 n : Nat) : List Value := (List.range n).map fun m => Value.ref (n0 + m)
/-- a zip over columns at n0: f0, f1: what it knows of the tuple given out -/
structure ZAt (h : Heap) (n0 : Nat) (cs : List Col) (i : Nat → Nat) (f0 f1 : Value) : Prop where
  it : ∀ (m : Nat) (c : Col), cs[m]? = some c → IAt c.1 h (n0 + m) c.2.1 (i m)
  sq : ∀ (m : Nat) (c : Col), cs[m]? = some c → SAt c.1 h c.2.1 c.2.2 ∧ c.2.1 < n0
  ti : h.get? (n0 + cs.length) = some { cls := .type "tuple", data := .seq (refs n0 cs.length).toArray }
  ob : h.get? (n0 + cs.length + 2) = some { cls := .type "zip", data := .fields #[f0, f1, .bool false, .ref (n0 + cs.length), .ref (n0 + cs.length + 1)] }
theorem ZAt.up {h h' : Heap} {n0 : Nat} {cs : List Col} {i : Nat → Nat} {f0 f1 : Value} (z : ZAt h n0 cs i f0 f1) (k : ∀ a o, h.get? a = some o → h'.get? a = some o) : ZAt h' n0 cs i f0 f1 :=
  ⟨fun m c e => (z.it m c e).up (k _), fun m c e => ⟨(z.sq m c e).1.up (k _), (z.sq m c e).2⟩, k _ _ z.ti, k _ _ z.ob⟩
def TOAt (h : Heap) (n0 : Nat) (cs : List Col) : Prop := ∃ vs : Array Value, vs.size = cs.length ∧ h.get? (n0 + cs.length + 1) = some { cls := .type "tuple", data := .seq vs }
end Py
/-! A turn of a zip over any number of columns. -/
namespace Py
open PySem PySem.Spec PyProof.Rows L2
/-- outside the zip's own objects -/
def Off (n0 : Nat) (cs : List Col) (a : Nat) : Prop := a < n0 ∨ n0 + cs.length + 3 ≤ a
def Kp (n0 : Nat) (cs : List Col) (h h' : Heap) : Prop := ∀ (a : Nat) o, Off n0 cs a → h.get? a = some o → h'.get? a = some o
theorem Kp.refl {n0 : Nat} {cs : List Col} {h : Heap} : Kp n0 cs h h := fun _ _ _ e => e
end Py
/-! A zip over any number of columns: further turns, its end, next. -/
namespace Py
open PySem PySem.Spec PyProof.Rows L2
/-- a zip behind i turns; T: the tuple given out last -/
inductive ZSt (h : Heap) (n0 : Nat) (cs : List Col) (i : Nat) : Prop
  | fresh (z : ZAt h n0 cs (fun _ => i) .none (.bool false)) (to : TOAt h n0 cs)
  | held (T : Nat) (f : Bool) (z : ZAt h n0 cs (fun _ => i) (rawInt T) (.bool f)) (hT : ∃ o, h.get? T = some o) (off : Off n0 cs T)
section
variable {prog : Program} {w : World} {A : Around} {E : Value → Shared → Prop} {s : Shared}
theorem ZSt.ty {n0 i : Nat} {cs : List Col} (z : ZSt s.heap n0 cs i) : s.TypeIs (.ref (n0 + cs.length + 2)) "zip" := by
  cases z with
  | fresh z _ => exact ⟨_, z.ob, rfl⟩
  | held T f z _ _ => exact ⟨_, z.ob, rfl⟩
end
end Py
/-! list(z), z a zip just made. -/
namespace Py
open PySem PySem.Spec PyProof.Rows L2
theorem ZSt.up {h h' : Heap} {n0 : Nat} {cs : List Col} {i : Nat} (z : ZSt h n0 cs i) (k : ∀ a o, h.get? a = some o → h'.get? a = some o) : ZSt h' n0 cs i := by
  cases z with
  | fresh z to =>
    obtain ⟨vs, h1, h2⟩ := to
    exact .fresh (z.up k) ⟨vs, h1, k _ _ h2⟩
  | held T f z hT off =>
    obtain ⟨o, hT⟩ := hT
    exact .held T f (z.up k) ⟨o, k _ _ hT⟩ off
end Py
/-! list(zip(*x)) in the mirror; range with a step. -/
/-! A slice of a list is a new list. -/
/-! == by an own __eq__. -/
namespace Py
open PySem PySem.Spec PyProof.Rows L2
structure EqOk (P : Program) (w : World) (K : Frag) (mg : Str → Option Value) (base : Heap) (j : Nat) (c : String) (fm : List D → Res D) : Prop where
  ex : ∃ f fd ps k, k ≤ j ∧ PySem.W.findIn K (.ref (ca K c)) "__eq__" = some (some (.ref f)) ∧ PySem.W.isFn K (.ref f) = true ∧ Binds K fd ps [] ∧ FnOk P w K mg base (L2N.CX P w) k f fd ps (spM K 2 fm)
section
variable {X : Cx} {W : WX} {j : Nat}
theorem y_eqX {ms : List (String × (List D → Res D))} (T : Ctx X W j) (hq : OpR X (compareOp .Eq) (r2 X.K oeq)) (hms : ∀ c fm, ms.lookup c = some fm → EqOk X.prog X.w X.K X.mg X.base j c fm) : OpR X (compareOp .Eq) (r2 X.K (eqX ms)) := by
  intro pins s σ H x y v u Q I rx ry ⟨A, d1, d2, d, h1, h2, ha, e, k⟩
  have old : oeq d1 d2 = .ok d → wpAny (model X.prog X.w) X.A (compareOp .Eq v u) (EP X pins σ Q) X.xe s := fun e => hq pins s σ H x y v u Q I rx ry ⟨A, d1, d2, d, h1, h2, ha, e, k⟩
  cases d1 with
  | ins c fs =>
    cases d2 with
    | ins c2 fs2 =>
      simp only [eqX] at e
      split at e
      · rename_i hc
        subst hc
        cases hl : ms.lookup c with
        | none => rw [hl] at e; cases e
        | some fm =>
          rw [hl] at e
          dsimp only at e
          obtain ⟨f, fd, ps, k0, hk, hs, hf, hb, F⟩ := (hms c fm hl).ex
          obtain ⟨a, dx, fvs, rfl, q, r⟩ := h1
          obtain ⟨a2, dx2, fvs2, rfl, q2, r2'⟩ := h2
          cases (show v = Value.ref a from rx)
          cases (show u = Value.ref a2 from ry)
          cases hfm : fm [.ins c fs, .ins c fs2] with
          | exc _ _ => rw [hfm] at e; cases e
          | stuck => rw [hfm] at e; cases e
          | ok dn =>
            rw [hfm] at e
            cases dn with
            | bl b =>
              simp only [Res.ok.injEq] at e
              subst e
              obtain ⟨mA, J, _⟩ := ins_get I.hok q
              obtain ⟨od, J, _⟩ := J.look
              obtain ⟨mA2, J2, _⟩ := ins_get I.hok q2
              obtain ⟨od2, J2, _⟩ := J2.look
              obtain ⟨m, hF⟩ := I.fr
              have hop : compareOp .Eq (Value.ref a) (Value.ref a2) = richCompare .Eq (Value.ref a) (Value.ref a2) := rfl
              rw [hop]
              have hr := T.hr.mono hk
              refine PySem.W.cmp_K (op := .Eq) (tb := .ref (ca X.K c)) hr.units0 hF I.ok.mod.kin J J2.type (by simp [PySem.W.notFirst]) hs hf ?_
              have hsp : spM X.K 2 fm [.ref a, .ref a2] H (fun v H' => v = .bl b ∧ Same H H') (fun _ _ _ => False) := ⟨fun _ => False, [.ins c fs, .ins c fs2], by
                simp only [RepL, Rep]
                exact ⟨_, _, rfl, ⟨a, dx, fvs, rfl, fun z => z, q, RepF.move (Mv.less fun _ z => z.elim) _ _ r⟩, _, [], rfl, ⟨a2, dx2, fvs2, rfl, fun z => z, q2, RepF.move (Mv.less fun _ z => z.elim) _ _ r2'⟩, rfl⟩, rfl, fun _ z => z.elim, by
                rw [hfm]
                exact fun v H' s' r' => ⟨r', s'⟩⟩
              have hlen := F.len _ _ _ _ hsp
              refine wpAny_call (codeAny_mono (F.run X.A X.stack s H ⟨[.ref a, .ref a2], []⟩ [.ref a, .ref a2] [.ref a, .ref a2] _ (fun _ _ _ => False) hr I.env0 (by
                have := hb s [.ref a, .ref a2] I.kIn (by simpa using hlen)
                simpa using this) (.cons rfl (.cons rfl .nil)) hsp) fun r s' hq => ?_)
              cases r with
              | error e => exact (cx_no hq).elim
              | ok fl =>
                cases fl with
                | ret w =>
                  obtain ⟨z, H', I', rz, ez, ex⟩ := I.after hq
                  subst ez
                  cases (show w = Value.bool b from rz)
                  exact ⟨.bl b, H', I', rfl, k _ H' ex rfl⟩
                | next => exact False.elim hq
                | brk => exact False.elim hq
                | cont => exact False.elim hq
            | _ => cases e
      · cases e
    | _ => exact old e
  | _ => exact old e
theorem n_eqX {ms : List (String × (List D → Res D))} : NoEx2 (eqX ms) := fun x y c fs => by
  have hb : ∀ a b, oeq a b ≠ .exc c fs := fun a b => n_eq a b c fs
  cases x with
  | ins c' fs' =>
    cases y with
    | ins c2 fs2 =>
      simp only [eqX]
      split
      · split
        · split <;> exact fun z => nomatch z
        · exact fun z => nomatch z
      · exact fun z => nomatch z
    | _ => exact hb _ _
  | _ => exact hb _ _
theorem eq_ok {P : Program} {w : World} {K : Frag} {mg : Str → Option Value} {base : Heap} {j k : Nat} {c : String} {fm : List D → Res D} (C : MethOk P w K mg base k c "__eq__" 2 fm) (hk : k ≤ j) : EqOk P w K mg base j c fm := by
  obtain ⟨f, fd, ps, h1, h2, h3, h4, h5⟩ := C.ex
  exact ⟨_, fd, ps, k, hk, h2.at_, h2.fn, h3, h4⟩
theorem eqs_nil {P : Program} {w : World} {K : Frag} {mg : Str → Option Value} {base : Heap} {j : Nat} : ∀ c fm, ([] : List (String × (List D → Res D))).lookup c = some fm → EqOk P w K mg base j c fm := fun c fm h => nomatch h
theorem eqs_cons {P : Program} {w : World} {K : Frag} {mg : Str → Option Value} {base : Heap} {j : Nat} {c0 : String} {f0 : List D → Res D} {ms : List (String × (List D → Res D))} (h0 : EqOk P w K mg base j c0 f0) (h : ∀ c fm, ms.lookup c = some fm → EqOk P w K mg base j c fm) : ∀ c fm, ((c0, f0) :: ms).lookup c = some fm → EqOk P w K mg base j c fm := fun c fm q => by
  by_cases e : c = c0
  · subst e
    simp only [List.lookup_cons, beq_self_eq_true, Option.some.injEq] at q
    subst q
    exact h0
  · simp only [List.lookup_cons, beq_eq_false_iff_ne.mpr e] at q
    exact h c fm q
end
end Py
namespace Py
def b_Machine_eq : SM :=
  (ret (andE (un (oisi CS [(.cls "Machine")]) (var 1)) (andE (bin oeq (un (oattr ["Machine"] "inputs") (var 0)) (un (oattr ["Machine"] "inputs") (var 1))) (andE (bin oeq (un (oattr ["Machine"] "nexts") (var 0)) (un (oattr ["Machine"] "nexts") (var 1))) (bin oeq (un (oattr ["Machine"] "outs") (var 0)) (un (oattr ["Machine"] "outs") (var 1)))))))
def m_Machine_eq : List D → Res D := fn 2 2 b_Machine_eq
def b_is_integer : SM :=
  (ret (andE (un (oisi CS [.int]) (var 0)) (un onb (un (oisi CS [.bl]) (var 0)))))
def m_is_integer : List D → Res D := fn 1 1 b_is_integer
def b_is_inputs : SM :=
  (ret (andE (call m_is_integer (argC (var 0) argN)) (Py.chain ole ole (cst (.int 1)) (var 0) (cst (.int 3)))))
def m_is_inputs : List D → Res D := fn 1 1 b_is_inputs
def b_as_tuple : SM :=
  (seq (ite (tst (un (oisi CS [.lst, .tup]) (var 0))) (ret (un btuple (var 0))) skip)
  (ret (cst .non)))
def m_as_tuple : List D → Res D := fn 1 1 b_as_tuple
def b_is_below : SM :=
  (ret (andE (call m_is_integer (argC (var 0) argN)) (Py.chain ole olt (cst (.int 0)) (var 0) (var 1))))
def m_is_below : List D → Res D := fn 2 2 b_is_below
def b_is_line : SM :=
  (seq (ite (orT (notT (tst (un (oisi CS [.tup]) (var 0)))) (tst (bin Py.one (un blen (var 0)) (var 1)))) (ret (cst (.bl false))) skip)
  (ret (un ball (lcE (iseq (var 0)) [3] (gnm 3) yes (call m_is_below (argC (var 3) (argC (var 2) argN)))))))
def m_is_line : List D → Res D := fn 3 4 b_is_line
def b_right_nexts : SM :=
  (seq (asg (gnm 2) (call m_as_tuple (argC (var 0) argN)))
  (seq (ite (notT (tst (var 2))) (rais "InvalidMachine" ["part", "place"] (argC (cst (.str "nexts")) (argC (cst (.int 0)) argN))) skip)
  (seq (for_ (ienum (var 2)) (gtup [(gnm 3), (gnm 4)]) (ite (notT (tst (call m_is_line (argC (var 4) (argC (var 1) (argC (un blen (var 2)) argN)))))) (rais "InvalidMachine" ["part", "place"] (argC (cst (.str "nexts")) (argC (var 3) argN))) skip))
  (ret (var 2)))))
def m_right_nexts : List D → Res D := fn 2 5 b_right_nexts
def b_right_outs : SM :=
  (seq (asg (gnm 3) (call m_as_tuple (argC (var 0) argN)))
  (seq (ite (tst (un oisN (var 3))) (rais "InvalidMachine" ["part", "place"] (argC (cst (.str "outs")) (argC (cst (.int 0)) argN))) skip)
  (seq (asg (gnm 4) (bin bmin2 (un blen (var 3)) (var 2)))
  (seq (for_ (irng1 (var 4)) (gnm 5) (ite (notT (tst (call m_is_line (argC (bin oidx (var 3) (var 5)) (argC (var 1) (argC (cst (.int 2)) argN)))))) (rais "InvalidMachine" ["part", "place"] (argC (cst (.str "outs")) (argC (var 5) argN))) skip))
  (seq (ite (tst (bin Py.one (un blen (var 3)) (var 2))) (rais "InvalidMachine" ["part", "place"] (argC (cst (.str "outs")) (argC (var 4) argN))) skip)
  (ret (var 3)))))))
def m_right_outs : List D → Res D := fn 3 6 b_right_outs
def b_Machine_init : SM :=
  (seq (ite (notT (tst (call m_is_inputs (argC (var 1) argN)))) (rais "InvalidMachine" ["part", "place"] (argC (cst (.str "inputs")) (argC (cst (.int 0)) argN))) skip)
  (seq (asg (gnm 4) (bin oshl (cst (.int 1)) (var 1)))
  (seq (setF 0 ["Machine"] "inputs" (var 1))
  (seq (setF 0 ["Machine"] "nexts" (call m_right_nexts (argC (var 2) (argC (var 4) argN))))
  (setF 0 ["Machine"] "outs" (call m_right_outs (argC (var 3) (argC (var 4) (argC (un blen (un (oattr ["Machine"] "nexts") (var 0))) argN)))))))))
def m_Machine : List D → Res D := made 4 5 "Machine" b_Machine_init
def b__law_cell : SM :=
  (seq (ite (tst (bin olt (var 1) (un blen (var 0)))) (ret (bin oidx (var 0) (var 1))) skip)
  (seq (ite (tst (bin ogt (un blen (var 0)) (cst (.int 0)))) (ret (bin oadd (bin omod (un bint (bin oidx (var 0) (bin omod (var 1) (un blen (var 0))))) (cst (.int 100003))) (bin omul (cst (.int 7919)) (var 1)))) skip)
  (ret (bin oadd (bin omul (cst (.int 7919)) (var 1)) (cst (.int 5))))))
def m_law_cell : List D → Res D := fn 2 2 b__law_cell
def b__law_mixed : SM :=
  (seq (asg (gnm 2) (bin omod (un bint (bin oadd (bin oadd (bin omul (var 0) (cst (.int 48271))) (bin omul (var 1) (cst (.int 1103515245)))) (cst (.int 12345)))) (cst (.int 2147483647))))
  (seq (asg (gnm 3) (bin omod (un bint (bin oadd (bin omul (var 2) (var 2)) (cst (.int 69621)))) (cst (.int 2147483563))))
  (ret (bin ofdiv (bin omod (un bint (bin omul (var 3) (bin oadd (bin omod (var 3) (cst (.int 65521))) (cst (.int 3))))) (cst (.int 1000000007))) (cst (.int 8))))))
def m_law_mixed : List D → Res D := fn 2 4 b__law_mixed
def b__law_draws : SM :=
  (seq (asg (gnm 2) (lstE argN))
  (seq (asg (gnm 3) (var 0))
  (seq (for_ (irng1 (un blen (var 1))) (gnm 4) (ite (andT (tst (bin oge (var 0) (bin opow (cst (.int 10)) (cst (.int 18))))) (andT (tst (bin olt (var 4) (cst (.int 60)))) (tst (bin ogt (var 3) (cst (.int 0)))))) (seq (app 2 (bin omod (un bint (var 3)) (bin oidx (var 1) (var 4))))
  (asg (gnm 3) (bin ofdiv (var 3) (bin oidx (var 1) (var 4))))) (app 2 (bin omod (call m_law_mixed (argC (var 0) (argC (var 4) argN))) (bin oidx (var 1) (var 4))))))
  (ret (var 2)))))
def m_law_draws : List D → Res D := fn 2 5 b__law_draws
def b__law_first : SM :=
  (seq (asg (gnm 2) (un blen (bin oidx (bin oidx (var 0) (cst (.int 0))) (cst (.int 0)))))
  (seq (asg (gnm 3) (dic1 true (tupE (argC (cst (.int 0)) (argC (cst (.int 0)) argN))) (cst (.bl true))))
  (seq (asg (gnm 4) (lstE (argC (tupE (argC (cst (.int 0)) (argC (cst (.int 0)) (argC (tupE argN) argN)))) argN)))
  (seq (for_ (irng1 (bin omul (un blen (bin oidx (var 0) (cst (.int 0)))) (un blen (bin oidx (var 1) (cst (.int 0)))))) (gnm 5) (seq (ite (tst (bin oge (var 5) (un blen (var 4)))) (ret (cst .non)) skip)
  (seq (asg (gnm 6) (bin oidx (var 4) (var 5)))
  (for_ (irng1 (var 2)) (gnm 7) (seq (ite (tst (bin Py.one (bin oidx (bin oidx (bin oidx (var 0) (cst (.int 1))) (bin oidx (var 6) (cst (.int 0)))) (var 7)) (bin oidx (bin oidx (bin oidx (var 1) (cst (.int 1))) (bin oidx (var 6) (cst (.int 1)))) (var 7)))) (ret (bin oadd (bin oidx (var 6) (cst (.int 2))) (tupE (argC (var 7) argN)))) skip)
  (seq (asg (gnm 8) (bin oidx (bin oidx (bin oidx (var 0) (cst (.int 0))) (bin oidx (var 6) (cst (.int 0)))) (var 7)))
  (seq (asg (gnm 9) (bin oidx (bin oidx (bin oidx (var 1) (cst (.int 0))) (bin oidx (var 6) (cst (.int 1)))) (var 7)))
  (ite (tst (bin onotin (tupE (argC (var 8) (argC (var 9) argN))) (var 3))) (seq (setL 3 (tupE (argC (var 8) (argC (var 9) argN))) (cst (.bl true)))
  (app 4 (tupE (argC (var 8) (argC (var 9) (argC (bin oadd (bin oidx (var 6) (cst (.int 2))) (tupE (argC (var 7) argN))) argN)))))) skip))))))))
  (ret (cst .non))))))
def m_law_first : List D → Res D := fn 2 10 b__law_first
def b_Machine_len : SM :=
  (ret (un blen (un (oattr ["Machine"] "nexts") (var 0))))
def m_Machine_len : List D → Res D := fn 1 1 b_Machine_len
def b__law_same : SM :=
  (seq (ite (orT (notT (tst (un (oisi CS [.tup]) (var 0)))) (tst (bin Py.one (un blen (var 0)) (un blen (var 1))))) (ret (cst (.bl false))) skip)
  (seq (for_ (irng1 (un blen (var 1))) (gnm 2) (ite (orT (notT (tst (un (oisi CS [.int]) (bin oidx (var 0) (var 2))))) (orT (tst (un (oisi CS [.bl]) (bin oidx (var 0) (var 2)))) (tst (bin Py.one (bin oidx (var 0) (var 2)) (bin oidx (var 1) (var 2)))))) (ret (cst (.bl false))) skip))
  (ret (cst (.bl true)))))
def m_law_same : List D → Res D := fn 2 3 b__law_same
def b__law_is : SM :=
  (seq (ite (orT (notT (tst (un (oisi CS [(.cls "Machine")]) (var 0)))) (orT (tst (bin Py.one (un (oattr ["Machine"] "inputs") (var 0)) (var 1))) (tst (bin Py.one (un (lenX [("Machine", m_Machine_len)]) (var 0)) (un blen (bin oidx (var 2) (cst (.int 0)))))))) (ret (cst (.bl false))) skip)
  (seq (for_ (iseq (lstE (argC (tupE (argC (un (oattr ["Machine"] "nexts") (var 0)) (argC (bin oidx (var 2) (cst (.int 0))) argN))) (argC (tupE (argC (un (oattr ["Machine"] "outs") (var 0)) (argC (bin oidx (var 2) (cst (.int 1))) argN))) argN)))) (gnm 3) (seq (ite (orT (notT (tst (un (oisi CS [.tup]) (bin oidx (var 3) (cst (.int 0)))))) (tst (bin Py.one (un blen (bin oidx (var 3) (cst (.int 0)))) (un blen (bin oidx (var 3) (cst (.int 1))))))) (ret (cst (.bl false))) skip)
  (for_ (irng1 (un blen (bin oidx (var 3) (cst (.int 1))))) (gnm 4) (ite (notT (tst (call m_law_same (argC (bin oidx (bin oidx (var 3) (cst (.int 0))) (var 4)) (argC (bin oidx (bin oidx (var 3) (cst (.int 1))) (var 4)) argN))))) (ret (cst (.bl false))) skip))))
  (ret (cst (.bl true)))))
def m_law_is : List D → Res D := fn 3 5 b__law_is
def b__law_numbered : SM :=
  (seq (asg (gnm 1) (dic0 true))
  (seq (asg (gnm 2) (lstE argN))
  (seq (for_ (iseq (var 0)) (gnm 3) (seq (ite (tst (bin onotin (var 3) (var 1))) (setL 1 (var 3) (un blen (var 1))) skip)
  (app 2 (bin oidx (var 1) (var 3)))))
  (ret (var 2)))))
def m_law_numbered : List D → Res D := fn 1 4 b__law_numbered
def b__law_least : SM :=
  (seq (asg (gnm 1) (bin oidx (var 0) (cst (.int 0))))
  (seq (asg (gnm 2) (call m_law_numbered (argC (bin oidx (var 0) (cst (.int 1))) argN)))
  (seq (for_ (irng1 (un blen (var 1))) (gnm 3) (seq (asg (gnm 4) (lstE argN))
  (seq (for_ (irng1 (un blen (var 1))) (gnm 5) (app 4 (tupE (argC (bin oidx (var 2) (var 5)) (argC (un btuple (lcE (iseq (bin oidx (var 1) (var 5))) [10] (gnm 10) yes (bin oidx (var 2) (var 10)))) argN)))))
  (seq (asg (gnm 6) (call m_law_numbered (argC (var 4) argN)))
  (seq (ite (tst (bin oeq (un bmaxL (var 6)) (un bmaxL (var 2)))) brk skip)
  (asg (gnm 2) (var 6)))))))
  (seq (asg (gnm 7) (lstE (argC (cst (.int 0)) argN)))
  (seq (asg (gnm 8) (dic1 false (bin oidx (var 2) (cst (.int 0))) (cst (.int 0))))
  (seq (for_ (irng1 (un blen (var 1))) (gnm 9) (seq (ite (tst (bin oge (var 9) (un blen (var 7)))) brk skip)
  (for_ (iseq (bin oidx (var 1) (bin oidx (var 7) (var 9)))) (gnm 10) (ite (tst (bin onotin (bin oidx (var 2) (var 10)) (var 8))) (seq (setL 8 (bin oidx (var 2) (var 10)) (un blen (var 7)))
  (app 7 (var 10))) skip))))
  (seq (asg (gnm 11) (lstE argN))
  (seq (for_ (iseq (var 7)) (gnm 5) (app 11 (un btuple (lcE (iseq (bin oidx (var 1) (var 5))) [10] (gnm 10) yes (bin oidx (var 8) (bin oidx (var 2) (var 10)))))))
  (ret (lstE (argC (var 11) (argC (lcE (iseq (var 7)) [5] (gnm 5) yes (bin oidx (bin oidx (var 0) (cst (.int 1))) (var 5))) argN))))))))))))
def m_law_least : List D → Res D := fn 1 12 b__law_least
def b__law_number : SM :=
  (seq (asg (gnm 2) (cst (.int 0)))
  (seq (asg (gnm 3) (cst (.int 0)))
  (seq (for_ (irng1 (un blen (var 1))) (gnm 4) (seq (asg (gnm 2) (bin oadd (var 2) (bin oshl (bin oidx (bin oidx (bin oidx (var 0) (cst (.int 1))) (var 3)) (bin oidx (var 1) (var 4))) (var 4))))
  (asg (gnm 3) (bin oidx (bin oidx (bin oidx (var 0) (cst (.int 0))) (var 3)) (bin oidx (var 1) (var 4))))))
  (ret (var 2)))))
def m_law_number : List D → Res D := fn 2 5 b__law_number
def b__law_copied : SM :=
  (seq (asg (gnm 4) (un blen (var 1)))
  (seq (asg (gnm 5) (un blen (bin oidx (var 1) (cst (.int 0)))))
  (seq (asg (gnm 6) (call m_law_draws (argC (var 0) (argC (bin oadd (bin olrep (lstE (argC (var 4) argN)) (bin osub (var 3) (var 4))) (bin olrep (lstE (argC (var 3) argN)) (bin omul (var 3) (var 5)))) argN))))
  (seq (asg (gnm 7) (bin oadd (lrngE (irng1 (var 4))) (slc (var 6) none (some (bin osub (var 3) (var 4))))))
  (seq (scat 8 9 (irng1 (var 4)) (irng1 (var 3)) (bin oidx (var 7) (var 9)) (var 9))
  (seq (asg (gnm 10) (lstE argN))
  (seq (for_ (irng1 (var 3)) (gnm 9) (seq (asg (gnm 11) (lstE argN))
  (seq (for_ (irng1 (var 5)) (gnm 12) (seq (asg (gnm 13) (bin oidx (var 8) (bin oidx (bin oidx (var 1) (bin oidx (var 7) (var 9))) (var 12))))
  (app 11 (bin oidx (var 13) (bin omod (bin oidx (var 6) (bin oadd (bin oadd (bin osub (var 3) (var 4)) (bin omul (var 9) (var 5))) (var 12))) (un blen (var 13)))))))
  (app 10 (un btuple (var 11))))))
  (ret (lstE (argC (var 10) (argC (lcE (iseq (var 7)) [9] (gnm 9) yes (bin oidx (var 2) (var 9))) argN)))))))))))
def m_law_copied : List D → Res D := fn 4 14 b__law_copied
def b__law_ring : SM :=
  (seq (asg (gnm 2) (un blen (var 0)))
  (seq (asg (gnm 3) (lstE argN))
  (seq (asg (gnm 4) (lstE argN))
  (seq (for_ (irng1 (var 2)) (gnm 5) (seq (asg (gnm 6) (bin omod (bin oadd (var 5) (cst (.int 1))) (var 2)))
  (seq (asg (gnm 7) (bin oidx (var 0) (var 5)))
  (seq (app 3 (bin otrep (tupE (argC (var 6) argN)) (var 1)))
  (app 4 (bin otrep (tupE (argC (var 7) argN)) (var 1)))))))
  (ret (lstE (argC (var 3) (argC (var 4) argN))))))))
def m_law_ring : List D → Res D := fn 2 8 b__law_ring
def b__law_rings : SM :=
  (seq (asg (gnm 3) (bin osub (bin oadd (var 0) (var 1)) (cst (.int 2))))
  (seq (asg (gnm 4) (lrngE (irng1 (var 3))))
  (seq (for_ (irng1 (var 3)) (gnm 5) (for_ (irng1 (var 3)) (gnm 6) (for_ (iseq (lstE (argC (var 0) (argC (var 1) argN)))) (gnm 7) (ite (tst (bin olt (bin oadd (var 6) (var 7)) (var 3))) (seq (asg (gnm 8) (bin bmin2 (bin oidx (var 4) (var 6)) (bin oidx (var 4) (bin oadd (var 6) (var 7)))))
  (seq (setL 4 (var 6) (var 8))
  (setL 4 (bin oadd (var 6) (var 7)) (var 8)))) skip))))
  (seq (asg (gnm 9) (lcE (iseq (var 4)) [10] (gnm 10) yes (un bint (bin oeq (var 10) (cst (.int 0))))))
  (ret (lstE (argC (call m_law_ring (argC (slc (var 9) none (some (var 0))) (argC (var 2) argN))) (argC (call m_law_ring (argC (slc (var 9) none (some (var 1))) (argC (var 2) argN))) argN))))))))
def m_law_rings : List D → Res D := fn 3 11 b__law_rings
def b__law_spoilt : SM :=
  (seq (asg (gnm 2) (un blist (bin oidx (var 0) (cst (.int 0)))))
  (seq (asg (gnm 3) (un blist (bin oidx (var 0) (cst (.int 1)))))
  (seq (asg (gnm 4) (bin omod (bin oidx (var 1) (cst (.int 1))) (un blen (var 2))))
  (seq (asg (gnm 5) (bin omod (bin oidx (var 1) (cst (.int 2))) (un blen (bin oidx (var 2) (cst (.int 0))))))
  (seq (ite (orT (tst (bin oeq (bin omod (bin oidx (var 1) (cst (.int 0))) (cst (.int 2))) (cst (.int 0)))) (tst (bin oeq (un blen (var 2)) (cst (.int 1))))) (seq (asg (gnm 6) (un blist (bin oidx (var 3) (var 4))))
  (seq (setL 6 (var 5) (bin osub (cst (.int 1)) (bin oidx (var 6) (var 5))))
  (setL 3 (var 4) (un btuple (var 6))))) (seq (asg (gnm 6) (un blist (bin oidx (var 2) (var 4))))
  (seq (setL 6 (var 5) (bin omod (bin oadd (bin oadd (bin oidx (var 6) (var 5)) (cst (.int 1))) (bin omod (bin oidx (var 1) (cst (.int 3))) (bin osub (un blen (var 2)) (cst (.int 1))))) (un blen (var 2))))
  (setL 2 (var 4) (un btuple (var 6))))))
  (ret (lstE (argC (var 2) (argC (var 3) argN)))))))))
def m_law_spoilt : List D → Res D := fn 2 7 b__law_spoilt
def b__law_table : SM :=
  (seq (asg (gnm 4) (call m_law_draws (argC (var 0) (argC (bin olrep (lstE (argC (var 3) argN)) (bin omul (var 1) (var 2))) argN))))
  (ret (lcE (irng1 (var 1)) [5] (gnm 5) yes (un btuple (slc (var 4) (some (bin omul (var 5) (var 2))) (some (bin omul (bin oadd (var 5) (cst (.int 1))) (var 2))))))))
def m_law_table : List D → Res D := fn 4 6 b__law_table
def b__law_two : SM :=
  (seq (ite (tst (bin oeq (bin oidx (var 2) (cst (.int 0))) (cst (.int 0)))) (seq (asg (gnm 3) (bin oadd (cst (.int 2)) (bin omod (bin oidx (var 2) (cst (.int 1))) (cst (.int 5)))))
  (seq (asg (gnm 4) (bin oidx (lstE (argC (bin oadd (var 3) (cst (.int 1))) (argC (bin oadd (bin omul (cst (.int 2)) (var 3)) (cst (.int 1))) argN))) (bin omod (bin oidx (var 2) (cst (.int 2))) (cst (.int 2)))))
  (seq (asg (gnm 5) (call m_law_rings (argC (var 3) (argC (var 4) (argC (var 1) argN)))))
  (seq (ite (tst (bin oeq (bin omod (bin oidx (var 2) (cst (.int 3))) (cst (.int 2))) (cst (.int 1)))) (ret (lstE (argC (bin oidx (var 5) (cst (.int 1))) (argC (bin oidx (var 5) (cst (.int 0))) argN)))) skip)
  (ret (var 5)))))) skip)
  (seq (ite (tst (bin oeq (bin oidx (var 2) (cst (.int 0))) (cst (.int 1)))) (seq (asg (gnm 6) (bin oadd (cst (.int 1)) (bin omod (bin oidx (var 2) (cst (.int 1))) (cst (.int 4)))))
  (seq (asg (gnm 7) (bin oadd (cst (.int 1)) (bin omod (bin oidx (var 2) (cst (.int 2))) (cst (.int 4)))))
  (seq (asg (gnm 8) (lstE (argC (call m_law_table (argC (call m_law_cell (argC (var 0) (argC (cst (.int 1)) argN))) (argC (var 6) (argC (var 1) (argC (var 6) argN))))) (argC (call m_law_table (argC (call m_law_cell (argC (var 0) (argC (cst (.int 2)) argN))) (argC (var 6) (argC (var 1) (argC (cst (.int 2)) argN))))) argN))))
  (seq (asg (gnm 9) (lstE (argC (call m_law_table (argC (call m_law_cell (argC (var 0) (argC (cst (.int 3)) argN))) (argC (var 7) (argC (var 1) (argC (var 7) argN))))) (argC (call m_law_table (argC (call m_law_cell (argC (var 0) (argC (cst (.int 4)) argN))) (argC (var 7) (argC (var 1) (argC (cst (.int 2)) argN))))) argN))))
  (ret (lstE (argC (var 8) (argC (var 9) argN)))))))) skip)
  (seq (asg (gnm 10) (bin oadd (cst (.int 1)) (bin omod (bin oidx (var 2) (cst (.int 1))) (cst (.int 4)))))
  (seq (asg (gnm 11) (call m_law_table (argC (call m_law_cell (argC (var 0) (argC (cst (.int 1)) argN))) (argC (var 10) (argC (var 1) (argC (var 10) argN))))))
  (seq (asg (gnm 12) (call m_law_table (argC (call m_law_cell (argC (var 0) (argC (cst (.int 2)) argN))) (argC (var 10) (argC (var 1) (argC (cst (.int 2)) argN))))))
  (seq (asg (gnm 8) (call m_law_copied (argC (call m_law_cell (argC (var 0) (argC (cst (.int 3)) argN))) (argC (var 11) (argC (var 12) (argC (bin oadd (var 10) (bin omod (bin oidx (var 2) (cst (.int 2))) (bin osub (cst (.int 13)) (var 10)))) argN))))))
  (seq (asg (gnm 9) (call m_law_copied (argC (call m_law_cell (argC (var 0) (argC (cst (.int 4)) argN))) (argC (var 11) (argC (var 12) (argC (bin oadd (var 10) (bin omod (bin oidx (var 2) (cst (.int 3))) (bin osub (cst (.int 13)) (var 10)))) argN))))))
  (seq (ite (tst (bin oeq (bin omod (bin oidx (var 2) (cst (.int 0))) (cst (.int 2))) (cst (.int 1)))) (asg (gnm 9) (call m_law_spoilt (argC (var 9) (argC (call m_law_draws (argC (call m_law_cell (argC (var 0) (argC (cst (.int 5)) argN))) (argC (lstE (argC (cst (.int 2)) (argC (cst (.int 12)) (argC (cst (.int 8)) (argC (cst (.int 11)) argN))))) argN))) argN)))) skip)
  (ret (lstE (argC (var 8) (argC (var 9) argN))))))))))))
def m_law_two : List D → Res D := fn 3 13 b__law_two
def b_is_reading : SM :=
  (seq (ite (notT (tst (un (oisi CS [.tup]) (var 0)))) (ret (cst (.bl false))) skip)
  (ret (un ball (lcE (iseq (var 0)) [2] (gnm 2) yes (call m_is_below (argC (var 2) (argC (bin oshl (cst (.int 1)) (var 1)) argN)))))))
def m_is_reading : List D → Res D := fn 2 3 b_is_reading
def b_Machine_bits_written : SM :=
  (seq (ite (notT (tst (call m_is_reading (argC (var 1) (argC (un (oattr ["Machine"] "inputs") (var 0)) argN))))) (rais "InvalidReading" ["value"] (argC (var 1) argN)) skip)
  (seq (asg (gnm 2) (cst (.int 0)))
  (seq (asg (gnm 3) (lstE argN))
  (seq (for_ (iseq (var 1)) (gnm 4) (seq (app 3 (bin oidx (bin oidx (un (oattr ["Machine"] "outs") (var 0)) (var 2)) (var 4)))
  (asg (gnm 2) (bin oidx (bin oidx (un (oattr ["Machine"] "nexts") (var 0)) (var 2)) (var 4)))))
  (ret (un btuple (var 3)))))))
def m_Machine_bits_written : List D → Res D := fn 2 5 b_Machine_bits_written
def b_is_number : SM :=
  (ret (andE (call m_is_integer (argC (var 0) argN)) (bin oge (var 0) (cst (.int 0)))))
def m_is_number : List D → Res D := fn 1 1 b_is_number
def b_is_word : SM :=
  (ret (andE (call m_is_number (argC (var 0) argN)) (bin ole (un bbits (var 0)) (var 1))))
def m_is_word : List D → Res D := fn 2 2 b_is_word
def b_are_words : SM :=
  (seq (asg (gnm 4) (call m_as_tuple (argC (var 0) argN)))
  (seq (ite (orT (tst (un oisN (var 4))) (notT (tst (Py.chain ole ole (var 2) (un blen (var 4)) (var 3))))) (ret (cst (.bl false))) skip)
  (ret (un ball (lcE (iseq (var 4)) [5] (gnm 5) yes (call m_is_word (argC (var 5) (argC (var 1) argN))))))))
def m_are_words : List D → Res D := fn 4 6 b_are_words
def b_letters_of : SM :=
  (seq (asg (gnm 2) (lstE argN))
  (seq (for_ (irng1 (var 0)) (gnm 3) (app 2 (un bsum (lcE (irng1 (un blen (var 1))) [4] (gnm 4) yes (bin oshl (bin oand (bin oshr (bin oidx (var 1) (var 4)) (var 3)) (cst (.int 1))) (var 4))))))
  (ret (un btuple (var 2)))))
def m_letters_of : List D → Res D := fn 2 5 b_letters_of
def b_Machine_write : SM :=
  (seq (ite (notT (tst (call m_is_number (argC (var 1) argN)))) (rais "InvalidNumber" ["value"] (argC (var 1) argN)) skip)
  (seq (ite (notT (tst (call m_are_words (argC (var 2) (argC (var 1) (argC (un (oattr ["Machine"] "inputs") (var 0)) (argC (un (oattr ["Machine"] "inputs") (var 0)) argN))))))) (rais "InvalidWords" ["value"] (argC (var 2) argN)) skip)
  (seq (asg (gnm 3) (callM "Machine" "bits_written" m_Machine_bits_written (var 0) (argC (call m_letters_of (argC (var 1) (argC (var 2) argN))) argN)))
  (ret (un bsum (lcE (ienum (var 3)) [4, 5] (gtup [(gnm 4), (gnm 5)]) yes (bin oshl (var 5) (var 4))))))))
def m_Machine_write : List D → Res D := fn 3 6 b_Machine_write
def b__law_written : SM :=
  (seq (asg (gnm 3) (lstE argN))
  (seq (for_ (irng1 (un (oattr ["Machine"] "inputs") (var 0))) (gnm 4) (seq (asg (gnm 5) (cst (.int 0)))
  (seq (for_ (irng1 (un blen (var 2))) (gnm 6) (asg (gnm 5) (bin oadd (var 5) (bin oshl (bin oand (bin oshr (bin oidx (var 2) (var 6)) (var 4)) (cst (.int 1))) (var 6)))))
  (app 3 (var 5)))))
  (seq (asg (gnm 7) (callM "Machine" "write" m_Machine_write (var 0) (argC (un blen (var 2)) (argC (var 3) argN))))
  (ret (andE (un (oisi CS [.int]) (var 7)) (andE (un onb (un (oisi CS [.bl]) (var 7))) (bin oeq (var 7) (call m_law_number (argC (var 1) (argC (var 2) argN))))))))))
def m_law_written : List D → Res D := fn 3 8 b__law_written
def b_first_unlike_letter : SM :=
  (seq (asg (gnm 2) (cst (.int 0)))
  (seq (while_ (tst (bin oeq (bin oidx (var 0) (var 2)) (bin oidx (var 1) (var 2)))) (aug 2 oiadd (cst (.int 1))))
  (ret (var 2))))
def m_first_unlike_letter : List D → Res D := fn 2 3 b_first_unlike_letter
def b_way_back : SM :=
  (seq (asg (gnm 2) (lstE argN))
  (seq (asg (gnm 3) (bin oidx (var 0) (var 1)))
  (seq (while_ (tst (un onotN (var 3))) (seq (app 2 (bin oidx (var 3) (cst (.int 1))))
  (asg (gnm 3) (bin oidx (var 0) (bin oidx (var 3) (cst (.int 0)))))))
  (ret (un btuple (un orev (var 2)))))))
def m_way_back : List D → Res D := fn 2 4 b_way_back
def b_first_split : SM :=
  (seq (asg (gnm 3) (dic1 true (var 2) (cst .non)))
  (seq (asg (gnm 4) (lstE (argC (var 2) argN)))
  (seq (asg (gnm 5) (cst (.int 0)))
  (seq (while_ (tst (bin olt (var 5) (un blen (var 4)))) (seq (asg (gtup [(gnm 6), (gnm 7)]) (bin oidx (var 4) (var 5)))
  (seq (ite (tst (bin Py.one (bin oidx (un (oattr ["Machine"] "outs") (var 0)) (var 6)) (bin oidx (un (oattr ["Machine"] "outs") (var 1)) (var 7)))) (ret (tupE (argS (call m_way_back (argC (var 3) (argC (bin oidx (var 4) (var 5)) argN))) (argC (call m_first_unlike_letter (argC (bin oidx (un (oattr ["Machine"] "outs") (var 0)) (var 6)) (argC (bin oidx (un (oattr ["Machine"] "outs") (var 1)) (var 7)) argN))) argN)))) skip)
  (seq (for_ (ienumM (izip (bin oidx (un (oattr ["Machine"] "nexts") (var 0)) (var 6)) (bin oidx (un (oattr ["Machine"] "nexts") (var 1)) (var 7)))) (gtup [(gnm 8), (gnm 9)]) (ite (tst (bin onotin (var 9) (var 3))) (seq (setL 3 (var 9) (tupE (argC (bin oidx (var 4) (var 5)) (argC (var 8) argN))))
  (app 4 (var 9))) skip))
  (aug 5 oiadd (cst (.int 1)))))))
  (ret (cst .non))))))
def m_first_split : List D → Res D := fn 3 10 b_first_split
def b_first_unlike : SM :=
  (seq (ite (tst (bin Py.one (un (oattr ["Machine"] "inputs") (var 0)) (un (oattr ["Machine"] "inputs") (var 1)))) (rais "Undefined" ["what"] (argC (cst (.str "inputs")) argN)) skip)
  (ret (call m_first_split (argC (var 0) (argC (var 1) (argC (tupE (argC (cst (.int 0)) (argC (cst (.int 0)) argN))) argN))))))
def m_first_unlike : List D → Res D := fn 2 2 b_first_unlike
def b_numbered : SM :=
  (seq (asg (gnm 1) (dic0 true))
  (seq (asg (gnm 2) (lstE argN))
  (seq (for_ (iseq (var 0)) (gnm 3) (seq (ite (tst (bin onotin (var 3) (var 1))) (setL 1 (var 3) (un blen (var 1))) skip)
  (app 2 (bin oidx (var 1) (var 3)))))
  (ret (var 2)))))
def m_numbered : List D → Res D := fn 1 4 b_numbered
def b_state_classes : SM :=
  (seq (asg (gnm 1) (call m_numbered (argC (un blist (un (oattr ["Machine"] "outs") (var 0))) argN)))
  (while_ (tst (cst (.bl true))) (seq (asg (gnm 2) (lstE argN))
  (seq (for_ (ienum (un (oattr ["Machine"] "nexts") (var 0))) (gtup [(gnm 3), (gnm 4)]) (app 2 (tupE (argC (bin oidx (var 1) (var 3)) (argC (un btuple (lcE (iseq (var 4)) [6] (gnm 6) yes (bin oidx (var 1) (var 6)))) argN)))))
  (seq (asg (gnm 5) (call m_numbered (argC (var 2) argN)))
  (seq (ite (tst (bin oeq (un bmaxL (var 5)) (un bmaxL (var 1)))) (ret (var 1)) skip)
  (asg (gnm 1) (var 5))))))))
def m_state_classes : List D → Res D := fn 1 7 b_state_classes
def b_least_machine : SM :=
  (seq (asg (gnm 1) (call m_state_classes (argC (var 0) argN)))
  (seq (asg (gnm 2) (lstE (argC (cst (.int 0)) argN)))
  (seq (asg (gnm 3) (dic1 false (bin oidx (var 1) (cst (.int 0))) (cst (.int 0))))
  (seq (asg (gnm 4) (lstE argN))
  (seq (while_ (tst (bin olt (un blen (var 4)) (un blen (var 2)))) (seq (asg (gnm 5) (lstE argN))
  (seq (for_ (iseq (bin oidx (un (oattr ["Machine"] "nexts") (var 0)) (bin oidx (var 2) (un blen (var 4))))) (gnm 6) (seq (ite (tst (bin onotin (bin oidx (var 1) (var 6)) (var 3))) (seq (setL 3 (bin oidx (var 1) (var 6)) (un blen (var 2)))
  (app 2 (var 6))) skip)
  (app 5 (bin oidx (var 3) (bin oidx (var 1) (var 6))))))
  (app 4 (un btuple (var 5))))))
  (ret (call m_Machine (argC (un (oattr ["Machine"] "inputs") (var 0)) (argC (var 4) (argC (lcE (iseq (var 2)) [7] (gnm 7) yes (bin oidx (un (oattr ["Machine"] "outs") (var 0)) (var 7))) argN))))))))))
def m_least_machine : List D → Res D := fn 1 8 b_least_machine
def b_write_alike : SM :=
  (ret (un oisN (call m_first_unlike (argC (var 0) (argC (var 1) argN)))))
def m_write_alike : List D → Res D := fn 2 2 b_write_alike
def b__law_holds : SM :=
  (seq (asg (gnm 1) (call m_law_draws (argC (call m_law_cell (argC (var 0) (argC (cst (.int 0)) argN))) (argC (lstE (argC (cst (.int 3)) (argC (cst (.int 6)) (argC (cst (.int 60)) (argC (cst (.int 120)) (argC (cst (.int 120)) (argC (cst (.int 41)) argN))))))) argN))))
  (seq (asg (gnm 2) (bin oadd (cst (.int 1)) (bin oidx (var 1) (cst (.int 0)))))
  (seq (asg (gnm 3) (call m_law_two (argC (var 0) (argC (bin oshl (cst (.int 1)) (var 2)) (argC (slc (var 1) (some (cst (.int 1))) none) argN)))))
  (seq (asg (gnm 4) (call m_Machine (argC (var 2) (argC (bin oidx (bin oidx (var 3) (cst (.int 0))) (cst (.int 0))) (argC (bin oidx (bin oidx (var 3) (cst (.int 0))) (cst (.int 1))) argN)))))
  (seq (asg (gnm 5) (call m_Machine (argC (var 2) (argC (bin oidx (bin oidx (var 3) (cst (.int 1))) (cst (.int 0))) (argC (bin oidx (bin oidx (var 3) (cst (.int 1))) (cst (.int 1))) argN)))))
  (seq (asg (gnm 6) (lstE (argC (call m_law_least (argC (bin oidx (var 3) (cst (.int 0))) argN)) (argC (call m_law_least (argC (bin oidx (var 3) (cst (.int 1))) argN)) argN))))
  (seq (asg (gnm 7) (call m_least_machine (argC (var 4) argN)))
  (seq (asg (gnm 8) (call m_least_machine (argC (var 5) argN)))
  (seq (ite (orT (notT (tst (call m_law_is (argC (var 7) (argC (var 2) (argC (bin oidx (var 6) (cst (.int 0))) argN)))))) (notT (tst (call m_law_is (argC (var 8) (argC (var 2) (argC (bin oidx (var 6) (cst (.int 1))) argN))))))) (ret (cst (.bl false))) skip)
  (seq (asg (gnm 9) (call m_law_first (argC (bin oidx (var 3) (cst (.int 0))) (argC (bin oidx (var 3) (cst (.int 1))) argN))))
  (seq (asg (gnm 10) (bin (eqX [("Machine", m_Machine_eq)]) (var 7) (var 8)))
  (seq (asg (gnm 11) (call m_write_alike (argC (var 4) (argC (var 5) argN))))
  (seq (ite (orT (notT (tst (un (oisi CS [.bl]) (var 10)))) (notT (tst (un (oisi CS [.bl]) (var 11))))) (ret (cst (.bl false))) skip)
  (seq (ite (orT (tst (bin Py.one (var 10) (un oisN (var 9)))) (tst (bin Py.one (var 11) (un oisN (var 9))))) (ret (cst (.bl false))) skip)
  (seq (asg (gnm 12) (call m_first_unlike (argC (var 4) (argC (var 5) argN))))
  (seq (ite (tst (un oisN (var 9))) (seq (asg (gnm 13) (call m_law_draws (argC (call m_law_cell (argC (var 0) (argC (cst (.int 6)) argN))) (argC (bin olrep (lstE (argC (bin oshl (cst (.int 1)) (var 2)) argN)) (bin oidx (var 1) (cst (.int 5)))) argN))))
  (seq (ite (orT (tst (un onotN (var 12))) (tst (bin Py.one (call m_law_number (argC (bin oidx (var 3) (cst (.int 0))) (argC (var 13) argN))) (call m_law_number (argC (bin oidx (var 3) (cst (.int 1))) (argC (var 13) argN)))))) (ret (cst (.bl false))) skip)
  (ret (andE (call m_law_written (argC (var 4) (argC (bin oidx (var 3) (cst (.int 0))) (argC (var 13) argN)))) (call m_law_written (argC (var 5) (argC (bin oidx (var 3) (cst (.int 1))) (argC (var 13) argN)))))))) skip)
  (seq (ite (orT (notT (tst (call m_law_same (argC (var 12) (argC (var 9) argN))))) (tst (bin ogt (un blen (var 12)) (bin osub (bin oadd (un blen (bin oidx (bin oidx (var 6) (cst (.int 0))) (cst (.int 0)))) (un blen (bin oidx (bin oidx (var 6) (cst (.int 1))) (cst (.int 0))))) (cst (.int 1)))))) (ret (cst (.bl false))) skip)
  (seq (asg (gnm 14) (slc (var 9) none (some (un oneg (cst (.int 1))))))
  (seq (ite (orT (tst (bin oeq (call m_law_number (argC (bin oidx (var 3) (cst (.int 0))) (argC (var 9) argN))) (call m_law_number (argC (bin oidx (var 3) (cst (.int 1))) (argC (var 9) argN))))) (tst (bin Py.one (call m_law_number (argC (bin oidx (var 3) (cst (.int 0))) (argC (var 14) argN))) (call m_law_number (argC (bin oidx (var 3) (cst (.int 1))) (argC (var 14) argN)))))) (ret (cst (.bl false))) skip)
  (seq (ite (orT (notT (tst (call m_law_written (argC (var 4) (argC (bin oidx (var 3) (cst (.int 0))) (argC (var 9) argN)))))) (notT (tst (call m_law_written (argC (var 5) (argC (bin oidx (var 3) (cst (.int 1))) (argC (var 9) argN))))))) (ret (cst (.bl false))) skip)
  (ret (andE (call m_law_written (argC (var 4) (argC (bin oidx (var 3) (cst (.int 0))) (argC (var 14) argN)))) (call m_law_written (argC (var 5) (argC (bin oidx (var 3) (cst (.int 1))) (argC (var 14) argN))))))))))))))))))))))))))
def m_law_holds : List D → Res D := fn 1 15 b__law_holds
def b_law : SM :=
  (thru (ret (call m_law_holds (argC (var 0) argN))))
def m_law : List D → Res D := fn 1 1 b_law
end Py
namespace Py
open PySem PySem.Spec PyProof.Rows L2
abbrev ow_Machine_eq : Ow := owS []
abbrev ow_is_integer : Ow := owS []
abbrev ow_is_inputs : Ow := owS []
abbrev ow_as_tuple : Ow := owS []
abbrev ow_is_below : Ow := owS []
abbrev ow_is_line : Ow := owS []
abbrev ow_right_nexts : Ow := owS []
abbrev ow_right_outs : Ow := owS []
abbrev ow_Machine_init : Ow := ⟨fun i => i == 0, none⟩
abbrev ow__law_cell : Ow := owS []
abbrev ow__law_mixed : Ow := owS []
abbrev ow__law_draws : Ow := owS []
abbrev ow__law_first : Ow := owS []
abbrev ow_Machine_len : Ow := owS []
abbrev ow__law_same : Ow := owS []
abbrev ow__law_is : Ow := owS []
abbrev ow__law_numbered : Ow := owS []
abbrev ow__law_least : Ow := owS []
abbrev ow__law_number : Ow := owS []
abbrev ow__law_copied : Ow := owS []
abbrev ow__law_ring : Ow := owS []
abbrev ow__law_rings : Ow := owS []
abbrev ow__law_spoilt : Ow := owS []
abbrev ow__law_table : Ow := owS []
abbrev ow__law_two : Ow := owS []
abbrev ow_is_reading : Ow := owS []
abbrev ow_Machine_bits_written : Ow := owS []
abbrev ow_is_number : Ow := owS []
abbrev ow_is_word : Ow := owS []
abbrev ow_are_words : Ow := owS []
abbrev ow_letters_of : Ow := owS []
abbrev ow_Machine_write : Ow := owS []
abbrev ow__law_written : Ow := owS []
abbrev ow_first_unlike_letter : Ow := owS []
abbrev ow_way_back : Ow := owS []
abbrev ow_first_split : Ow := owS []
abbrev ow_first_unlike : Ow := owS []
abbrev ow_numbered : Ow := owS []
abbrev ow_state_classes : Ow := owS []
abbrev ow_least_machine : Ow := owS []
abbrev ow_write_alike : Ow := owS []
abbrev ow__law_holds : Ow := owS []
abbrev ow_law : Ow := owS []
abbrev Fs (P : Program) (w : World) (K : Frag) (mg : Str → Option Value) : Prop := FactsY fa fns xfs tbs mss FILE P w K mg
section
variable {P : Program} {w : World} {K : Frag} {mg : Str → Option Value} {base : Heap}
theorem S_InvalidMachine_init : NdefX.NScope N_InvalidMachine_init ["self", "part", "place"] ["__class__"] sc_InvalidMachine_init := NdefX.nscope_by (by decide +kernel)
theorem er_InvalidMachine (Y : Fs P w K mg) : ErrOk P w K mg base 1 "InvalidMachine" ["part", "place"] :=
  err_ok (k := 0) (self := "self") (N := N_InvalidMachine_init) (ps := ["self", "part", "place"]) (Y.err 0 4 (d := d_InvalidMachine_init) (c := "InvalidMachine") (fs := ["part", "place"])) (Y.glo 58) (Y.free 59) Y.ps rfl S_InvalidMachine_init rfl rfl rfl rfl (fun _ _ _ _ _ _ _ us hl => match us, hl with | [_, _, _], _ => rfl)
    (fun _ _ _ _ _ _ _ _ => (pss_cons (ps_ost (pv 0) (pv 1)) (pss_one (ps_ost (pv 0) (pv 2)))))
    (fun a ws H1 Dn σ h0 h1 hl hn q => fld_two (Y.err 0 4 (d := d_InvalidMachine_init) (c := "InvalidMachine") (fs := ["part", "place"])).T ((Y.err 0 4 (d := d_InvalidMachine_init) (c := "InvalidMachine") (fs := ["part", "place"])).no _ (by simp)) ((Y.err 0 4 (d := d_InvalidMachine_init) (c := "InvalidMachine") (fs := ["part", "place"])).no _ (by simp)) h0 h1 hl hn q) (fun _ _ _ _ => rfl) (fun _ _ _ _ => rfl) (fun _ _ _ _ => rfl) (fun _ _ _ _ => rfl)
theorem S_InvalidNumber_init : NdefX.NScope N_InvalidNumber_init ["self", "value"] ["__class__"] sc_InvalidNumber_init := NdefX.nscope_by (by decide +kernel)
theorem er_InvalidNumber (Y : Fs P w K mg) : ErrOk P w K mg base 1 "InvalidNumber" ["value"] :=
  err_ok (k := 0) (self := "self") (N := N_InvalidNumber_init) (ps := ["self", "value"]) (Y.err 1 5 (d := d_InvalidNumber_init) (c := "InvalidNumber") (fs := ["value"])) (Y.glo 60) (Y.free 59) Y.ps rfl S_InvalidNumber_init rfl rfl rfl rfl (fun _ _ _ _ _ _ _ us hl => match us, hl with | [_, _], _ => rfl)
    (fun _ _ _ _ _ _ _ _ => (pss_one (ps_ost (pv 0) (pv 1))))
    (fun a ws H1 Dn σ h0 h1 hl hn q => fld_one (Y.err 1 5 (d := d_InvalidNumber_init) (c := "InvalidNumber") (fs := ["value"])).T ((Y.err 1 5 (d := d_InvalidNumber_init) (c := "InvalidNumber") (fs := ["value"])).no _ (by simp)) h0 h1 hl hn q) (fun _ _ _ _ => rfl) (fun _ _ _ _ => rfl) (fun _ _ _ _ => rfl) (fun _ _ _ _ => rfl)
theorem S_InvalidWords_init : NdefX.NScope N_InvalidWords_init ["self", "value"] ["__class__"] sc_InvalidWords_init := NdefX.nscope_by (by decide +kernel)
theorem er_InvalidWords (Y : Fs P w K mg) : ErrOk P w K mg base 1 "InvalidWords" ["value"] :=
  err_ok (k := 0) (self := "self") (N := N_InvalidWords_init) (ps := ["self", "value"]) (Y.err 2 6 (d := d_InvalidWords_init) (c := "InvalidWords") (fs := ["value"])) (Y.glo 61) (Y.free 59) Y.ps rfl S_InvalidWords_init rfl rfl rfl rfl (fun _ _ _ _ _ _ _ us hl => match us, hl with | [_, _], _ => rfl)
    (fun _ _ _ _ _ _ _ _ => (pss_one (ps_ost (pv 0) (pv 1))))
    (fun a ws H1 Dn σ h0 h1 hl hn q => fld_one (Y.err 2 6 (d := d_InvalidWords_init) (c := "InvalidWords") (fs := ["value"])).T ((Y.err 2 6 (d := d_InvalidWords_init) (c := "InvalidWords") (fs := ["value"])).no _ (by simp)) h0 h1 hl hn q) (fun _ _ _ _ => rfl) (fun _ _ _ _ => rfl) (fun _ _ _ _ => rfl) (fun _ _ _ _ => rfl)
theorem S_InvalidReading_init : NdefX.NScope N_InvalidReading_init ["self", "value"] ["__class__"] sc_InvalidReading_init := NdefX.nscope_by (by decide +kernel)
theorem er_InvalidReading (Y : Fs P w K mg) : ErrOk P w K mg base 1 "InvalidReading" ["value"] :=
  err_ok (k := 0) (self := "self") (N := N_InvalidReading_init) (ps := ["self", "value"]) (Y.err 3 7 (d := d_InvalidReading_init) (c := "InvalidReading") (fs := ["value"])) (Y.glo 62) (Y.free 59) Y.ps rfl S_InvalidReading_init rfl rfl rfl rfl (fun _ _ _ _ _ _ _ us hl => match us, hl with | [_, _], _ => rfl)
    (fun _ _ _ _ _ _ _ _ => (pss_one (ps_ost (pv 0) (pv 1))))
    (fun a ws H1 Dn σ h0 h1 hl hn q => fld_one (Y.err 3 7 (d := d_InvalidReading_init) (c := "InvalidReading") (fs := ["value"])).T ((Y.err 3 7 (d := d_InvalidReading_init) (c := "InvalidReading") (fs := ["value"])).no _ (by simp)) h0 h1 hl hn q) (fun _ _ _ _ => rfl) (fun _ _ _ _ => rfl) (fun _ _ _ _ => rfl) (fun _ _ _ _ => rfl)
theorem S_Undefined_init : NdefX.NScope N_Undefined_init ["self", "what"] ["__class__"] sc_Undefined_init := NdefX.nscope_by (by decide +kernel)
theorem er_Undefined (Y : Fs P w K mg) : ErrOk P w K mg base 1 "Undefined" ["what"] :=
  err_ok (k := 0) (self := "self") (N := N_Undefined_init) (ps := ["self", "what"]) (Y.err 4 8 (d := d_Undefined_init) (c := "Undefined") (fs := ["what"])) (Y.glo 63) (Y.free 59) Y.ps rfl S_Undefined_init rfl rfl rfl rfl (fun _ _ _ _ _ _ _ us hl => match us, hl with | [_, _], _ => rfl)
    (fun _ _ _ _ _ _ _ _ => (pss_one (ps_ost (pv 0) (pv 1))))
    (fun a ws H1 Dn σ h0 h1 hl hn q => fld_one (Y.err 4 8 (d := d_Undefined_init) (c := "Undefined") (fs := ["what"])).T ((Y.err 4 8 (d := d_Undefined_init) (c := "Undefined") (fs := ["what"])).no _ (by simp)) h0 h1 hl hn q) (fun _ _ _ _ => rfl) (fun _ _ _ _ => rfl) (fun _ _ _ _ => rfl) (fun _ _ _ _ => rfl)
theorem S_Machine_eq : FnScope N_Machine_eq ["self", "other"] sc_Machine_eq := ⟨rfl, rfl, rfl, by decide +kernel, rfl, by decide +kernel, by decide +kernel⟩
theorem c_Machine_eq (Y : Fs P w K mg) : MethOk P w K mg base 1 "Machine" "__eq__" 2 m_Machine_eq :=
  meth_def (d := d_Machine_eq) (N := N_Machine_eq) (ps := ["self", "other"]) (p := 2) (m := b_Machine_eq) (k := 0) (ow := ow_Machine_eq) (Y.def_ 0) (Y.cls 14) (Y.meth 15) S_Machine_eq rfl rfl (by decide) (fun _ _ _ _ _ _ us hl => match us, hl with | [_, _], _ => rfl) (fun cdv A outer s H E T => (ss_one (s_ret (x_and (x_isi1 (cs := CS) (t := (.cls "Machine")) rfl (kit_of_b (Y.more 0)) rfl (Y.free 0) (w_of (x_var (pv 1) rfl)) (pe_glob rfl (Y.glo 3) rfl)) (x_and (x_cmp T.eq n_eq (w_of (x_attr (att_ok (Y.more 1)) (w_of (x_var (pv 0) rfl)))) (w_of (x_attr (att_ok (Y.more 1)) (w_of (x_var (pv 1) rfl)))) rfl) (x_and (x_cmp T.eq n_eq (w_of (x_attr (att_ok (Y.more 2)) (w_of (x_var (pv 0) rfl)))) (w_of (x_attr (att_ok (Y.more 2)) (w_of (x_var (pv 1) rfl)))) rfl) (x_one (x_cmp T.eq n_eq (w_of (x_attr (att_ok (Y.more 3)) (w_of (x_var (pv 0) rfl)))) (w_of (x_attr (att_ok (Y.more 3)) (w_of (x_var (pv 1) rfl)))) rfl))))))))
theorem S_is_integer : FnScope N_is_integer ["value"] sc_is_integer := ⟨rfl, rfl, rfl, by decide +kernel, rfl, by decide +kernel, by decide +kernel⟩
theorem c_is_integer (Y : Fs P w K mg) : CallOk P w K mg base 1 "is_integer" d_is_integer ["value"] 1 m_is_integer :=
  def_ok (d := d_is_integer) (N := N_is_integer) (ps := ["value"]) (p := 1) (m := b_is_integer) (k := 0) (ow := ow_is_integer) (Y.def_ 1) (Y.glo 16) S_is_integer rfl rfl (by decide) (fun _ _ _ _ _ _ us hl => match us, hl with | [_], _ => rfl) (fun cdv A outer s H E T => (ss_one (s_ret (x_and (x_isi1 (cs := CS) (t := .int) rfl (kit_of_b (Y.more 0)) rfl (Y.free 0) (w_of (x_var (pv 0) rfl)) (pe_bltn rfl (Y.free 4) hv_int rfl)) (x_one (x_not (x_isi1 (cs := CS) (t := .bl) rfl (kit_of_b (Y.more 0)) rfl (Y.free 0) (w_of (x_var (pv 0) rfl)) (pe_bltn rfl (Y.free 1) hv_bool rfl))))))))
theorem S_is_inputs : FnScope N_is_inputs ["value"] sc_is_inputs := ⟨rfl, rfl, rfl, by decide +kernel, rfl, by decide +kernel, by decide +kernel⟩
theorem c_is_inputs (Y : Fs P w K mg) : CallOk P w K mg base 2 "is_inputs" d_is_inputs ["value"] 1 m_is_inputs :=
  def_ok (d := d_is_inputs) (N := N_is_inputs) (ps := ["value"]) (p := 1) (m := b_is_inputs) (k := 1) (ow := ow_is_inputs) (Y.def_ 2) (Y.glo 17) S_is_inputs rfl rfl (by decide) (fun _ _ _ _ _ _ us hl => match us, hl with | [_], _ => rfl) (fun cdv A outer s H E T => (ss_one (s_ret (x_and (x_own1 T (c_is_integer Y) (by decide) rfl (xa_cons (x_var (pv 0) rfl) xa_nil)) (x_one (x_chain y_le y_le n_le n_le (w_of x_int) (w_of (x_var (pv 0) rfl)) (w_of x_int)))))))
theorem S_as_tuple : FnScope N_as_tuple ["value"] sc_as_tuple := ⟨rfl, rfl, rfl, by decide +kernel, rfl, by decide +kernel, by decide +kernel⟩
theorem c_as_tuple (Y : Fs P w K mg) : CallOk P w K mg base 1 "as_tuple" d_as_tuple ["value"] 1 m_as_tuple :=
  def_ok (d := d_as_tuple) (N := N_as_tuple) (ps := ["value"]) (p := 1) (m := b_as_tuple) (k := 0) (ow := ow_as_tuple) (Y.def_ 3) (Y.glo 18) S_as_tuple rfl rfl (by decide) (fun _ _ _ _ _ _ us hl => match us, hl with | [_], _ => rfl) (fun cdv A outer s H E T => (ss_cons (s_if (t_tst (w_of (x_isiT (cs := CS) (ts := [.lst, .tup]) rfl (kit_of_b (Y.more 0)) rfl (Y.free 0) (w_of (x_var (pv 0) rfl)) (TyL.cons (t := .lst) (pe_bltn rfl (Y.free 6) hv_list rfl) (TyL.cons (t := .tup) (pe_bltn rfl (Y.free 7) hv_tuple rfl) TyL.nil rfl) rfl) (by decide))) (by intro _; rfl)) (ss_one (s_ret (x_t1 v_tuple n_tuple rfl (Y.free 7) hv_tuple (w_of (x_var (pv 0) rfl))))) ss_nil)
  (ss_one (s_ret x_non))))
theorem S_is_below : FnScope N_is_below ["value", "limit"] sc_is_below := ⟨rfl, rfl, rfl, by decide +kernel, rfl, by decide +kernel, by decide +kernel⟩
theorem c_is_below (Y : Fs P w K mg) : CallOk P w K mg base 2 "is_below" d_is_below ["value", "limit"] 2 m_is_below :=
  def_ok (d := d_is_below) (N := N_is_below) (ps := ["value", "limit"]) (p := 2) (m := b_is_below) (k := 1) (ow := ow_is_below) (Y.def_ 4) (Y.glo 19) S_is_below rfl rfl (by decide) (fun _ _ _ _ _ _ us hl => match us, hl with | [_, _], _ => rfl) (fun cdv A outer s H E T => (ss_one (s_ret (x_and (x_own1 T (c_is_integer Y) (by decide) rfl (xa_cons (x_var (pv 0) rfl) xa_nil)) (x_one (x_chain y_le y_lt n_le n_lt (w_of x_int) (w_of (x_var (pv 0) rfl)) (w_of (x_var (pv 1) rfl))))))))
theorem S_is_line : FnScope N_is_line ["value", "many", "limit"] sc_is_line := ⟨rfl, rfl, rfl, by decide +kernel, rfl, by decide +kernel, by decide +kernel⟩
theorem c_is_line (Y : Fs P w K mg) : CallOk P w K mg base 3 "is_line" d_is_line ["value", "many", "limit"] 3 m_is_line :=
  def_ok (d := d_is_line) (N := N_is_line) (ps := ["value", "many", "limit"]) (p := 3) (m := b_is_line) (k := 2) (ow := ow_is_line) (Y.def_ 5) (Y.glo 20) S_is_line rfl rfl (by decide) (fun _ _ _ _ _ _ us hl => match us, hl with | [_, _, _], _ => rfl) (fun cdv A outer s H E T => (ss_cons (s_if (PW.pt (t_or (t_not (t_tst (w_of (x_isi1 (cs := CS) (t := .tup) rfl (kit_of_b (Y.more 0)) rfl (Y.free 0) (w_of (x_var (pv 0) rfl)) (pe_bltn rfl (Y.free 7) hv_tuple rfl))) (by intro _; rfl))) (t_or1 (t_cmp T.ne n_ne b_ne (w_of (x_b1 v_len n_len rfl (Y.free 2) hv_len (w_of (x_var (pv 0) rfl)))) (w_of (x_var (pv 1) rfl)) rfl)))) (ss_one (s_ret x_bl)) ss_nil)
  (ss_one (s_ret (x_b1 (v_all T.calm) n_all rfl (Y.free 8) hv_all (w_of (e_of (f_lc (own := [("member", 3)]) T (i_gr (i_seq (x_var (pv 0) rfl))) (blkOk_by (N := N_is_line) (sc := sc_is_line) (own := [("member", 3)]) (by decide +kernel)) (fun _ _ _ _ _ T1 => (g_nm (pg_name (i := 3) T1.nd rfl (Or.inl rfl)) rfl)) (fun _ _ _ _ _ T1 => ts_nil) (fun _ _ _ _ _ T1 => (x_own1 T1 (c_is_below Y) (by decide) rfl (xa_cons (x_var (pv 3) rfl) (xa_cons (x_var (pv 2) rfl) xa_nil)))) (by decide)))))))))
theorem S_right_nexts : FnScope N_right_nexts ["value", "letters"] sc_right_nexts := ⟨rfl, rfl, rfl, by decide +kernel, rfl, by decide +kernel, by decide +kernel⟩
theorem c_right_nexts (Y : Fs P w K mg) : CallOk P w K mg base 4 "right_nexts" d_right_nexts ["value", "letters"] 2 m_right_nexts :=
  def_ok (d := d_right_nexts) (N := N_right_nexts) (ps := ["value", "letters"]) (p := 2) (m := b_right_nexts) (k := 3) (ow := ow_right_nexts) (Y.def_ 6) (Y.glo 21) S_right_nexts rfl rfl (by decide) (fun _ _ _ _ _ _ us hl => match us, hl with | [_, _], _ => rfl) (fun cdv A outer s H E T => (ss_cons (s_set (ps_set (i := 2) T.nd rfl (Or.inl rfl) (x_own1 T (c_as_tuple Y) (by decide) rfl (xa_cons (x_var (pv 0) rfl) xa_nil))) rfl)
  (ss_cons (s_if (t_not (t_tst (w_of (x_var (pv 2) rfl)) (by intro _; rfl))) (ss_one (s_raise T (er_InvalidMachine Y) (by decide) rfl (xa_cons (x_str (s := "nexts")) (xa_cons x_int xa_nil)))) ss_nil)
  (ss_cons (s_for T.po T.calm (i_enum rfl (Y.free 5) (x_var (pv 2) rfl)) (g_tup T.calm (gs_cons (g_nm (pg_name (i := 3) T.nd rfl (Or.inl rfl)) rfl) (gs_cons (g_nm (pg_name (i := 4) T.nd rfl (Or.inl rfl)) rfl) gs_nil))) (ss_one (s_if (t_not (t_tst (w_of (x_own1 T (c_is_line Y) (by decide) rfl (xa_cons (x_var (pv 4) rfl) (xa_cons (x_var (pv 1) rfl) (xa_cons (x_b1 v_len n_len rfl (Y.free 2) hv_len (w_of (x_var (pv 2) rfl))) xa_nil))))) (by intro _; rfl))) (ss_one (s_raise T (er_InvalidMachine Y) (by decide) rfl (xa_cons (x_str (s := "nexts")) (xa_cons (x_var (pv 3) rfl) xa_nil)))) ss_nil)))
  (ss_one (s_ret (x_var (pv 2) rfl)))))))
theorem S_right_outs : FnScope N_right_outs ["value", "letters", "states"] sc_right_outs := ⟨rfl, rfl, rfl, by decide +kernel, rfl, by decide +kernel, by decide +kernel⟩
theorem c_right_outs (Y : Fs P w K mg) : CallOk P w K mg base 4 "right_outs" d_right_outs ["value", "letters", "states"] 3 m_right_outs :=
  def_ok (d := d_right_outs) (N := N_right_outs) (ps := ["value", "letters", "states"]) (p := 3) (m := b_right_outs) (k := 3) (ow := ow_right_outs) (Y.def_ 7) (Y.glo 22) S_right_outs rfl rfl (by decide) (fun _ _ _ _ _ _ us hl => match us, hl with | [_, _, _], _ => rfl) (fun cdv A outer s H E T => (ss_cons (s_set (ps_set (i := 3) T.nd rfl (Or.inl rfl) (x_own1 T (c_as_tuple Y) (by decide) rfl (xa_cons (x_var (pv 0) rfl) xa_nil))) rfl)
  (ss_cons (s_if (t_isN (w_of (x_var (pv 3) rfl))) (ss_one (s_raise T (er_InvalidMachine Y) (by decide) rfl (xa_cons (x_str (s := "outs")) (xa_cons x_int xa_nil)))) ss_nil)
  (ss_cons (s_set (ps_set (i := 4) T.nd rfl (Or.inl rfl) (x_b2 (v_min2 T.calm) n_min2 rfl (Y.free 9) hv_min (w_of (x_b1 v_len n_len rfl (Y.free 2) hv_len (w_of (x_var (pv 3) rfl)))) (w_of (x_var (pv 2) rfl)))) rfl)
  (ss_cons (s_for T.po T.calm (i_rng1 rfl (Y.free 10) (x_var (pv 4) rfl)) (g_nm (pg_name (i := 5) T.nd rfl (Or.inl rfl)) rfl) (ss_one (s_if (t_not (t_tst (w_of (x_own1 T (c_is_line Y) (by decide) rfl (xa_cons (x_idx T.ix (w_of (x_var (pv 3) rfl)) (w_of (x_var (pv 5) rfl))) (xa_cons (x_var (pv 1) rfl) (xa_cons x_int xa_nil))))) (by intro _; rfl))) (ss_one (s_raise T (er_InvalidMachine Y) (by decide) rfl (xa_cons (x_str (s := "outs")) (xa_cons (x_var (pv 5) rfl) xa_nil)))) ss_nil)))
  (ss_cons (s_if (t_cmp T.ne n_ne b_ne (w_of (x_b1 v_len n_len rfl (Y.free 2) hv_len (w_of (x_var (pv 3) rfl)))) (w_of (x_var (pv 2) rfl)) rfl) (ss_one (s_raise T (er_InvalidMachine Y) (by decide) rfl (xa_cons (x_str (s := "outs")) (xa_cons (x_var (pv 4) rfl) xa_nil)))) ss_nil)
  (ss_one (s_ret (x_var (pv 3) rfl)))))))))
theorem S_Machine_init : FnScope N_Machine_init ["self", "inputs", "nexts", "outs"] sc_Machine_init := ⟨rfl, rfl, rfl, by decide +kernel, rfl, by decide +kernel, by decide +kernel⟩
theorem c_Machine (Y : Fs P w K mg) : MakeOk P w K mg base 5 "Machine" 4 m_Machine :=
  cls_ok (name := "__init__") (qual := "Machine.__init__") (params := defArgs st_Machine_init) (body := defBody st_Machine_init) (scope := sc_Machine_init) (f := He.ma K (ca K "Machine") "__init__") (N := N_Machine_init) (p := 4) (m := b_Machine_init) (k := 4) (ow := ow_Machine_init) (Y.def_ 8) (Y.glo 3) (Y.mkr 23 (x := "Machine")) S_Machine_init rfl rfl rfl (by decide) (by decide) (fun _ _ _ _ _ _ us hl => match us, hl with | [_, _, _, _], _ => rfl) (fun cdv A outer s H E T => (ss_cons (s_if (t_not (t_tst (w_of (x_own1 T (c_is_inputs Y) (by decide) rfl (xa_cons (x_var (pv 1) rfl) xa_nil))) (by intro _; rfl))) (ss_one (s_raise T (er_InvalidMachine Y) (by decide) rfl (xa_cons (x_str (s := "inputs")) (xa_cons x_int xa_nil)))) ss_nil)
  (ss_cons (s_set (ps_set (i := 4) T.nd rfl (Or.inl rfl) (x_bin y_shl n_shl (w_of x_int) (w_of (x_var (pv 1) rfl)))) rfl)
  (ss_cons (s_setF (att_ok (Y.more 1)) (ps_fld (pv 0) (x_var (pv 1) rfl) rfl) rfl)
  (ss_cons (s_setF (att_ok (Y.more 2)) (ps_fld (pv 0) (x_own1 T (c_right_nexts Y) (by decide) rfl (xa_cons (x_var (pv 2) rfl) (xa_cons (x_var (pv 4) rfl) xa_nil))) rfl) rfl)
  (ss_one (s_setF (att_ok (Y.more 3)) (ps_fld (pv 0) (x_own1 T (c_right_outs Y) (by decide) rfl (xa_cons (x_var (pv 3) rfl) (xa_cons (x_var (pv 4) rfl) (xa_cons (x_b1 v_len n_len rfl (Y.free 2) hv_len (w_of (x_attr (att_ok (Y.more 2)) (x_own (pv 0))))) xa_nil)))) rfl) rfl)))))))
theorem S__law_cell : FnScope N__law_cell ["script", "k"] sc__law_cell := ⟨rfl, rfl, rfl, by decide +kernel, rfl, by decide +kernel, by decide +kernel⟩
theorem c_law_cell (Y : Fs P w K mg) : CallOk P w K mg base 1 "_law_cell" d__law_cell ["script", "k"] 2 m_law_cell :=
  def_ok (d := d__law_cell) (N := N__law_cell) (ps := ["script", "k"]) (p := 2) (m := b__law_cell) (k := 0) (ow := ow__law_cell) (Y.def_ 9) (Y.glo 24) S__law_cell rfl rfl (by decide) (fun _ _ _ _ _ _ us hl => match us, hl with | [_, _], _ => rfl) (fun cdv A outer s H E T => (ss_cons (s_if (t_cmp y_lt n_lt b_lt (w_of (x_var (pv 1) rfl)) (w_of (x_b1 v_len n_len rfl (Y.free 2) hv_len (w_of (x_var (pv 0) rfl)))) rfl) (ss_one (s_ret (x_idx T.ix (w_of (x_var (pv 0) rfl)) (w_of (x_var (pv 1) rfl))))) ss_nil)
  (ss_cons (s_if (t_cmp y_gt n_gt b_gt (w_of (x_b1 v_len n_len rfl (Y.free 2) hv_len (w_of (x_var (pv 0) rfl)))) (w_of x_int) rfl) (ss_one (s_ret (x_bin y_add n_add (w_of (x_bin y_mod n_mod (w_of (x_t1 v_int n_int rfl (Y.free 4) hv_int (w_of (x_idx T.ix (w_of (x_var (pv 0) rfl)) (w_of (x_bin y_mod n_mod (w_of (x_var (pv 1) rfl)) (w_of (x_b1 v_len n_len rfl (Y.free 2) hv_len (w_of (x_var (pv 0) rfl)))))))))) (w_of x_int))) (w_of (x_bin y_mul n_mul (w_of x_int) (w_of (x_var (pv 1) rfl))))))) ss_nil)
  (ss_one (s_ret (x_bin y_add n_add (w_of (x_bin y_mul n_mul (w_of x_int) (w_of (x_var (pv 1) rfl)))) (w_of x_int)))))))
theorem S__law_mixed : FnScope N__law_mixed ["cell", "k"] sc__law_mixed := ⟨rfl, rfl, rfl, by decide +kernel, rfl, by decide +kernel, by decide +kernel⟩
theorem c_law_mixed (Y : Fs P w K mg) : CallOk P w K mg base 1 "_law_mixed" d__law_mixed ["cell", "k"] 2 m_law_mixed :=
  def_ok (d := d__law_mixed) (N := N__law_mixed) (ps := ["cell", "k"]) (p := 2) (m := b__law_mixed) (k := 0) (ow := ow__law_mixed) (Y.def_ 10) (Y.glo 25) S__law_mixed rfl rfl (by decide) (fun _ _ _ _ _ _ us hl => match us, hl with | [_, _], _ => rfl) (fun cdv A outer s H E T => (ss_cons (s_set (ps_set (i := 2) T.nd rfl (Or.inl rfl) (x_bin y_mod n_mod (w_of (x_t1 v_int n_int rfl (Y.free 4) hv_int (w_of (x_bin y_add n_add (w_of (x_bin y_add n_add (w_of (x_bin y_mul n_mul (w_of (x_var (pv 0) rfl)) (w_of x_int))) (w_of (x_bin y_mul n_mul (w_of (x_var (pv 1) rfl)) (w_of x_int))))) (w_of x_int))))) (w_of x_int))) rfl)
  (ss_cons (s_set (ps_set (i := 3) T.nd rfl (Or.inl rfl) (x_bin y_mod n_mod (w_of (x_t1 v_int n_int rfl (Y.free 4) hv_int (w_of (x_bin y_add n_add (w_of (x_bin y_mul n_mul (w_of (x_var (pv 2) rfl)) (w_of (x_var (pv 2) rfl)))) (w_of x_int))))) (w_of x_int))) rfl)
  (ss_one (s_ret (x_bin y_fdiv n_fdiv (w_of (x_bin y_mod n_mod (w_of (x_t1 v_int n_int rfl (Y.free 4) hv_int (w_of (x_bin y_mul n_mul (w_of (x_var (pv 3) rfl)) (w_of (x_bin y_add n_add (w_of (x_bin y_mod n_mod (w_of (x_var (pv 3) rfl)) (w_of x_int))) (w_of x_int))))))) (w_of x_int))) (w_of x_int)))))))
theorem S__law_draws : FnScope N__law_draws ["cell", "sizes"] sc__law_draws := ⟨rfl, rfl, rfl, by decide +kernel, rfl, by decide +kernel, by decide +kernel⟩
theorem c_law_draws (Y : Fs P w K mg) : CallOk P w K mg base 2 "_law_draws" d__law_draws ["cell", "sizes"] 2 m_law_draws :=
  def_ok (d := d__law_draws) (N := N__law_draws) (ps := ["cell", "sizes"]) (p := 2) (m := b__law_draws) (k := 1) (ow := ow__law_draws) (oN := owS []) (oB := owS []) (Y.def_ 11) (Y.glo 26) S__law_draws rfl rfl (by decide) (fun _ _ _ _ _ _ us hl => match us, hl with | [_, _], _ => rfl) (fun cdv A outer s H E T => (c_cons (o1 := owS [2]) (c_own (ps_set (i := 2) T.nd rfl (Or.inl rfl) (f_lst xa_nil)) rfl (owS_add (by decide)))
  (c_cons (o1 := owS [2]) (s_up (s_set (ps_set (i := 3) T.nd rfl (Or.inl rfl) (x_var (pv 0) rfl)) rfl) (owS_le (by decide)) (by decide))
  (c_cons (o1 := owS [2]) (s_up (s_for T.po T.calm (i_rng1 rfl (Y.free 10) (x_b1 v_len n_len rfl (Y.free 2) hv_len (w_of (x_var (pv 1) rfl)))) (g_nm (pg_name (i := 4) T.nd rfl (Or.inl rfl)) rfl) (c_one (c_if (PW.pt (t_and (t_cmp y_ge n_ge b_ge (w_of (x_var (pv 0) rfl)) (w_of (x_bin y_pow n_pow (w_of x_int) (w_of x_int))) rfl) (t_and (t_cmp y_lt n_lt b_lt (w_of (x_var (pv 4) rfl)) (w_of x_int) rfl) (t_and1 (t_cmp y_gt n_gt b_gt (w_of (x_var (pv 3) rfl)) (w_of x_int) rfl))))) (c_cons (o1 := owS [2]) (s_up (s_app1 (i := 2) (pv 2) (x_bin y_mod n_mod (w_of (x_t1 v_int n_int rfl (Y.free 4) hv_int (w_of (x_var (pv 3) rfl)))) (w_of (x_idx T.ix (w_of (x_var (pv 1) rfl)) (w_of (x_var (pv 4) rfl))))) rfl) (owS_le (by decide)) (by decide))
  (c_one (s_up (s_set (ps_set (i := 3) T.nd rfl (Or.inl rfl) (x_bin y_fdiv n_fdiv (w_of (x_var (pv 3) rfl)) (w_of (x_idx T.ix (w_of (x_var (pv 1) rfl)) (w_of (x_var (pv 4) rfl)))))) rfl) (owS_le (by decide)) (by decide)))) (c_one (s_up (s_app1 (i := 2) (pv 2) (x_bin y_mod n_mod (w_of (x_own1 T (c_law_mixed Y) (by decide) rfl (xa_cons (x_var (pv 0) rfl) (xa_cons (x_var (pv 4) rfl) xa_nil)))) (w_of (x_idx T.ix (w_of (x_var (pv 1) rfl)) (w_of (x_var (pv 4) rfl))))) rfl) (owS_le (by decide)) (by decide)))))) (owS_le (by decide)) (by decide))
  (c_cut (o1 := owS []) (c_one (s_up (s_ret (x_var (pv 2) rfl)) (owS_le (by decide)) (by decide))) (owS_le (by decide)) (by decide))))))
theorem S__law_first : FnScope N__law_first ["one", "other"] sc__law_first := ⟨rfl, rfl, rfl, by decide +kernel, rfl, by decide +kernel, by decide +kernel⟩
theorem c_law_first (Y : Fs P w K mg) : CallOk P w K mg base 1 "_law_first" d__law_first ["one", "other"] 2 m_law_first :=
  def_ok (d := d__law_first) (N := N__law_first) (ps := ["one", "other"]) (p := 2) (m := b__law_first) (k := 0) (ow := ow__law_first) (oN := owS []) (oB := owS []) (Y.def_ 12) (Y.glo 27) S__law_first rfl rfl (by decide) (fun _ _ _ _ _ _ us hl => match us, hl with | [_, _], _ => rfl) (fun cdv A outer s H E T => (c_cons (o1 := owS []) (s_up (s_set (ps_set (i := 2) T.nd rfl (Or.inl rfl) (x_b1 v_len n_len rfl (Y.free 2) hv_len (w_of (x_idx T.ix (w_of (x_idx T.ix (w_of (x_var (pv 0) rfl)) (w_of x_int))) (w_of x_int))))) rfl) (owS_le (by decide)) (by decide))
  (c_cons (o1 := owS [3]) (c_own (ps_set (i := 3) T.nd rfl (Or.inl rfl) (f_dicT T.dh (x_tup (xa_cons x_int (xa_cons x_int xa_nil))) x_bl)) rfl (owS_add (by decide)))
  (c_cons (o1 := owS [3, 4]) (c_own (ps_set (i := 4) T.nd rfl (Or.inl rfl) (f_lst (xa_cons (x_tup (xa_cons x_int (xa_cons x_int (xa_cons (x_tup xa_nil) xa_nil)))) xa_nil))) rfl (owS_add (by decide)))
  (c_cons (o1 := owS [3, 4]) (s_up (s_for T.po T.calm (i_rng1 rfl (Y.free 10) (x_bin y_mul n_mul (w_of (x_b1 v_len n_len rfl (Y.free 2) hv_len (w_of (x_idx T.ix (w_of (x_var (pv 0) rfl)) (w_of x_int))))) (w_of (x_b1 v_len n_len rfl (Y.free 2) hv_len (w_of (x_idx T.ix (w_of (x_var (pv 1) rfl)) (w_of x_int))))))) (g_nm (pg_name (i := 5) T.nd rfl (Or.inl rfl)) rfl) (c_cons (o1 := owS [3, 4]) (c_if (t_cmp y_ge n_ge b_ge (w_of (x_var (pv 5) rfl)) (w_of (x_b1 v_len n_len rfl (Y.free 2) hv_len (x_own (pv 4)))) rfl) (c_one (s_up (s_ret x_non) (owS_le (by decide)) (by decide))) (c_cut (o1 := owS [3, 4]) c_nil (owS_le (by decide)) (by decide)))
  (c_cons (o1 := owS [3, 4]) (s_up (s_set (ps_set (i := 6) T.nd rfl (Or.inl rfl) (x_idx T.ix (x_own (pv 4)) (w_of (x_var (pv 5) rfl)))) rfl) (owS_le (by decide)) (by decide))
  (c_one (s_up (s_for T.po T.calm (i_rng1 rfl (Y.free 10) (x_var (pv 2) rfl)) (g_nm (pg_name (i := 7) T.nd rfl (Or.inl rfl)) rfl) (c_cons (o1 := owS [3, 4]) (c_if (t_cmp T.ne n_ne b_ne (w_of (x_idx T.ix (w_of (x_idx T.ix (w_of (x_idx T.ix (w_of (x_var (pv 0) rfl)) (w_of x_int))) (w_of (x_idx T.ix (w_of (x_var (pv 6) rfl)) (w_of x_int))))) (w_of (x_var (pv 7) rfl)))) (w_of (x_idx T.ix (w_of (x_idx T.ix (w_of (x_idx T.ix (w_of (x_var (pv 1) rfl)) (w_of x_int))) (w_of (x_idx T.ix (w_of (x_var (pv 6) rfl)) (w_of x_int))))) (w_of (x_var (pv 7) rfl)))) rfl) (c_one (s_up (s_ret (x_bin y_add n_add (w_of (x_idx T.ix (w_of (x_var (pv 6) rfl)) (w_of x_int))) (w_of (x_tup (xa_cons (x_var (pv 7) rfl) xa_nil))))) (owS_le (by decide)) (by decide))) (c_cut (o1 := owS [3, 4]) c_nil (owS_le (by decide)) (by decide)))
  (c_cons (o1 := owS [3, 4]) (s_up (s_set (ps_set (i := 8) T.nd rfl (Or.inl rfl) (x_idx T.ix (w_of (x_idx T.ix (w_of (x_idx T.ix (w_of (x_var (pv 0) rfl)) (w_of x_int))) (w_of (x_idx T.ix (w_of (x_var (pv 6) rfl)) (w_of x_int))))) (w_of (x_var (pv 7) rfl)))) rfl) (owS_le (by decide)) (by decide))
  (c_cons (o1 := owS [3, 4]) (s_up (s_set (ps_set (i := 9) T.nd rfl (Or.inl rfl) (x_idx T.ix (w_of (x_idx T.ix (w_of (x_idx T.ix (w_of (x_var (pv 1) rfl)) (w_of x_int))) (w_of (x_idx T.ix (w_of (x_var (pv 6) rfl)) (w_of x_int))))) (w_of (x_var (pv 7) rfl)))) rfl) (owS_le (by decide)) (by decide))
  (c_one (c_if (t_cmp T.nin n_notin b_notin (w_of (x_tup (xa_cons (x_var (pv 8) rfl) (xa_cons (x_var (pv 9) rfl) xa_nil)))) (x_own (pv 3)) rfl) (c_cons (o1 := owS [3, 4]) (s_up (s_setL (i := 3) (ps_asg x_bl (pg_sub (pv 3) (x_tup (xa_cons (x_var (pv 8) rfl) (xa_cons (x_var (pv 9) rfl) xa_nil))) T.st)) rfl) (owS_le (by decide)) (by decide))
  (c_one (s_up (s_app1 (i := 4) (pv 4) (x_tup (xa_cons (x_var (pv 8) rfl) (xa_cons (x_var (pv 9) rfl) (xa_cons (x_bin y_add n_add (w_of (x_idx T.ix (w_of (x_var (pv 6) rfl)) (w_of x_int))) (w_of (x_tup (xa_cons (x_var (pv 7) rfl) xa_nil)))) xa_nil)))) rfl) (owS_le (by decide)) (by decide)))) (c_cut (o1 := owS [3, 4]) c_nil (owS_le (by decide)) (by decide)))))))) (owS_le (by decide)) (by decide)))))) (owS_le (by decide)) (by decide))
  (c_cut (o1 := owS []) (c_one (s_up (s_ret x_non) (owS_le (by decide)) (by decide))) (owS_le (by decide)) (by decide)))))))
theorem S_Machine_len : FnScope N_Machine_len ["self"] sc_Machine_len := ⟨rfl, rfl, rfl, by decide +kernel, rfl, by decide +kernel, by decide +kernel⟩
theorem c_Machine_len (Y : Fs P w K mg) : MethOk P w K mg base 1 "Machine" "__len__" 1 m_Machine_len :=
  meth_def (d := d_Machine_len) (N := N_Machine_len) (ps := ["self"]) (p := 1) (m := b_Machine_len) (k := 0) (ow := ow_Machine_len) (Y.def_ 13) (Y.cls 14) (Y.meth 28) S_Machine_len rfl rfl (by decide) (fun _ _ _ _ _ _ us hl => match us, hl with | [_], _ => rfl) (fun cdv A outer s H E T => (ss_one (s_ret (x_b1 v_len n_len rfl (Y.free 2) hv_len (w_of (x_attr (att_ok (Y.more 2)) (w_of (x_var (pv 0) rfl))))))))
theorem S__law_same : FnScope N__law_same ["actual", "due"] sc__law_same := ⟨rfl, rfl, rfl, by decide +kernel, rfl, by decide +kernel, by decide +kernel⟩
theorem c_law_same (Y : Fs P w K mg) : CallOk P w K mg base 1 "_law_same" d__law_same ["actual", "due"] 2 m_law_same :=
  def_ok (d := d__law_same) (N := N__law_same) (ps := ["actual", "due"]) (p := 2) (m := b__law_same) (k := 0) (ow := ow__law_same) (Y.def_ 14) (Y.glo 29) S__law_same rfl rfl (by decide) (fun _ _ _ _ _ _ us hl => match us, hl with | [_, _], _ => rfl) (fun cdv A outer s H E T => (ss_cons (s_if (PW.pt (t_or (t_not (t_tst (w_of (x_isi1 (cs := CS) (t := .tup) rfl (kit_of_b (Y.more 0)) rfl (Y.free 0) (w_of (x_var (pv 0) rfl)) (pe_bltn rfl (Y.free 7) hv_tuple rfl))) (by intro _; rfl))) (t_or1 (t_cmp T.ne n_ne b_ne (w_of (x_b1 v_len n_len rfl (Y.free 2) hv_len (w_of (x_var (pv 0) rfl)))) (w_of (x_b1 v_len n_len rfl (Y.free 2) hv_len (w_of (x_var (pv 1) rfl)))) rfl)))) (ss_one (s_ret x_bl)) ss_nil)
  (ss_cons (s_for T.po T.calm (i_rng1 rfl (Y.free 10) (x_b1 v_len n_len rfl (Y.free 2) hv_len (w_of (x_var (pv 1) rfl)))) (g_nm (pg_name (i := 2) T.nd rfl (Or.inl rfl)) rfl) (ss_one (s_if (PW.pt (t_or (t_not (t_tst (w_of (x_isi1 (cs := CS) (t := .int) rfl (kit_of_b (Y.more 0)) rfl (Y.free 0) (w_of (x_idx T.ix (w_of (x_var (pv 0) rfl)) (w_of (x_var (pv 2) rfl)))) (pe_bltn rfl (Y.free 4) hv_int rfl))) (by intro _; rfl))) (t_or (t_tst (w_of (x_isi1 (cs := CS) (t := .bl) rfl (kit_of_b (Y.more 0)) rfl (Y.free 0) (w_of (x_idx T.ix (w_of (x_var (pv 0) rfl)) (w_of (x_var (pv 2) rfl)))) (pe_bltn rfl (Y.free 1) hv_bool rfl))) (by intro _; rfl)) (t_or1 (t_cmp T.ne n_ne b_ne (w_of (x_idx T.ix (w_of (x_var (pv 0) rfl)) (w_of (x_var (pv 2) rfl)))) (w_of (x_idx T.ix (w_of (x_var (pv 1) rfl)) (w_of (x_var (pv 2) rfl)))) rfl))))) (ss_one (s_ret x_bl)) ss_nil)))
  (ss_one (s_ret x_bl)))))
theorem S__law_is : FnScope N__law_is ["machine", "inputs", "tables"] sc__law_is := ⟨rfl, rfl, rfl, by decide +kernel, rfl, by decide +kernel, by decide +kernel⟩
theorem c_law_is (Y : Fs P w K mg) : CallOk P w K mg base 3 "_law_is" d__law_is ["machine", "inputs", "tables"] 3 m_law_is :=
  def_ok (d := d__law_is) (N := N__law_is) (ps := ["machine", "inputs", "tables"]) (p := 3) (m := b__law_is) (k := 2) (ow := ow__law_is) (Y.def_ 15) (Y.glo 30) S__law_is rfl rfl (by decide) (fun _ _ _ _ _ _ us hl => match us, hl with | [_, _, _], _ => rfl) (fun cdv A outer s H E T => (ss_cons (s_if (PW.pt (t_or (t_not (t_tst (w_of (x_isi1 (cs := CS) (t := (.cls "Machine")) rfl (kit_of_b (Y.more 0)) rfl (Y.free 0) (w_of (x_var (pv 0) rfl)) (pe_glob rfl (Y.glo 3) rfl))) (by intro _; rfl))) (t_or (t_cmp T.ne n_ne b_ne (w_of (x_attr (att_ok (Y.more 1)) (w_of (x_var (pv 0) rfl)))) (w_of (x_var (pv 1) rfl)) rfl) (t_or1 (t_cmp T.ne n_ne b_ne (w_of (x_b1 (v_lenX T (lens_cons (len_ok (c_Machine_len Y) (by decide)) lens_nil)) n_lenX rfl (Y.free 2) hv_len (w_of (x_var (pv 0) rfl)))) (w_of (x_b1 v_len n_len rfl (Y.free 2) hv_len (w_of (x_idx T.ix (w_of (x_var (pv 2) rfl)) (w_of x_int))))) rfl))))) (ss_one (s_ret x_bl)) ss_nil)
  (ss_cons (s_for T.po T.calm (i_seq (e_of (f_lst (xa_cons (x_tup (xa_cons (x_attr (att_ok (Y.more 2)) (w_of (x_var (pv 0) rfl))) (xa_cons (x_idx T.ix (w_of (x_var (pv 2) rfl)) (w_of x_int)) xa_nil))) (xa_cons (x_tup (xa_cons (x_attr (att_ok (Y.more 3)) (w_of (x_var (pv 0) rfl))) (xa_cons (x_idx T.ix (w_of (x_var (pv 2) rfl)) (w_of x_int)) xa_nil))) xa_nil))))) (g_nm (pg_name (i := 3) T.nd rfl (Or.inl rfl)) rfl) (ss_cons (s_if (PW.pt (t_or (t_not (t_tst (w_of (x_isi1 (cs := CS) (t := .tup) rfl (kit_of_b (Y.more 0)) rfl (Y.free 0) (w_of (x_idx T.ix (w_of (x_var (pv 3) rfl)) (w_of x_int))) (pe_bltn rfl (Y.free 7) hv_tuple rfl))) (by intro _; rfl))) (t_or1 (t_cmp T.ne n_ne b_ne (w_of (x_b1 v_len n_len rfl (Y.free 2) hv_len (w_of (x_idx T.ix (w_of (x_var (pv 3) rfl)) (w_of x_int))))) (w_of (x_b1 v_len n_len rfl (Y.free 2) hv_len (w_of (x_idx T.ix (w_of (x_var (pv 3) rfl)) (w_of x_int))))) rfl)))) (ss_one (s_ret x_bl)) ss_nil)
  (ss_one (s_for T.po T.calm (i_rng1 rfl (Y.free 10) (x_b1 v_len n_len rfl (Y.free 2) hv_len (w_of (x_idx T.ix (w_of (x_var (pv 3) rfl)) (w_of x_int))))) (g_nm (pg_name (i := 4) T.nd rfl (Or.inl rfl)) rfl) (ss_one (s_if (t_not (t_tst (w_of (x_own1 T (c_law_same Y) (by decide) rfl (xa_cons (x_idx T.ix (w_of (x_idx T.ix (w_of (x_var (pv 3) rfl)) (w_of x_int))) (w_of (x_var (pv 4) rfl))) (xa_cons (x_idx T.ix (w_of (x_idx T.ix (w_of (x_var (pv 3) rfl)) (w_of x_int))) (w_of (x_var (pv 4) rfl))) xa_nil)))) (by intro _; rfl))) (ss_one (s_ret x_bl)) ss_nil))))))
  (ss_one (s_ret x_bl)))))
theorem S__law_numbered : FnScope N__law_numbered ["keys"] sc__law_numbered := ⟨rfl, rfl, rfl, by decide +kernel, rfl, by decide +kernel, by decide +kernel⟩
theorem c_law_numbered (Y : Fs P w K mg) : CallOk P w K mg base 1 "_law_numbered" d__law_numbered ["keys"] 1 m_law_numbered :=
  def_ok (d := d__law_numbered) (N := N__law_numbered) (ps := ["keys"]) (p := 1) (m := b__law_numbered) (k := 0) (ow := ow__law_numbered) (oN := owS []) (oB := owS []) (Y.def_ 16) (Y.glo 31) S__law_numbered rfl rfl (by decide) (fun _ _ _ _ _ _ us hl => match us, hl with | [_], _ => rfl) (fun cdv A outer s H E T => (c_cons (o1 := owS [1]) (c_own (ps_set (i := 1) T.nd rfl (Or.inl rfl) (f_dic0 true)) rfl (owS_add (by decide)))
  (c_cons (o1 := owS [1, 2]) (c_own (ps_set (i := 2) T.nd rfl (Or.inl rfl) (f_lst xa_nil)) rfl (owS_add (by decide)))
  (c_cons (o1 := owS [1, 2]) (s_up (s_for T.po T.calm (i_seq (x_var (pv 0) rfl)) (g_nm (pg_name (i := 3) T.nd rfl (Or.inl rfl)) rfl) (c_cons (o1 := owS [1, 2]) (c_if (t_cmp T.nin n_notin b_notin (w_of (x_var (pv 3) rfl)) (x_own (pv 1)) rfl) (c_one (s_up (s_setL (i := 1) (ps_asg (x_b1 v_len n_len rfl (Y.free 2) hv_len (x_own (pv 1))) (pg_sub (pv 1) (x_var (pv 3) rfl) T.st)) rfl) (owS_le (by decide)) (by decide))) (c_cut (o1 := owS [1, 2]) c_nil (owS_le (by decide)) (by decide)))
  (c_one (s_up (s_app1 (i := 2) (pv 2) (x_idx T.ix (x_own (pv 1)) (w_of (x_var (pv 3) rfl))) rfl) (owS_le (by decide)) (by decide))))) (owS_le (by decide)) (by decide))
  (c_cut (o1 := owS []) (c_one (s_up (s_ret (x_var (pv 2) rfl)) (owS_le (by decide)) (by decide))) (owS_le (by decide)) (by decide))))))
theorem S__law_least : FnScope N__law_least ["tables"] sc__law_least := ⟨rfl, rfl, rfl, by decide +kernel, rfl, by decide +kernel, by decide +kernel⟩
theorem c_law_least (Y : Fs P w K mg) : CallOk P w K mg base 2 "_law_least" d__law_least ["tables"] 1 m_law_least :=
  def_ok (d := d__law_least) (N := N__law_least) (ps := ["tables"]) (p := 1) (m := b__law_least) (k := 1) (ow := ow__law_least) (oN := owS []) (oB := owS []) (Y.def_ 17) (Y.glo 32) S__law_least rfl rfl (by decide) (fun _ _ _ _ _ _ us hl => match us, hl with | [_], _ => rfl) (fun cdv A outer s H E T => (c_cons (o1 := owS []) (s_up (s_set (ps_set (i := 1) T.nd rfl (Or.inl rfl) (x_idx T.ix (w_of (x_var (pv 0) rfl)) (w_of x_int))) rfl) (owS_le (by decide)) (by decide))
  (c_cons (o1 := owS []) (s_up (s_set (ps_set (i := 2) T.nd rfl (Or.inr rfl) (x_own1 T (c_law_numbered Y) (by decide) rfl (xa_cons (x_idx T.ix (w_of (x_var (pv 0) rfl)) (w_of x_int)) xa_nil))) rfl) (owS_le (by decide)) (by decide))
  (c_cons (o1 := owS []) (s_up (s_for T.po T.calm (i_rng1 rfl (Y.free 10) (x_b1 v_len n_len rfl (Y.free 2) hv_len (w_of (x_var (pv 1) rfl)))) (g_nm (pg_name (i := 3) T.nd rfl (Or.inl rfl)) rfl) (c_cons (o1 := owS [4]) (c_own (ps_set (i := 4) T.nd rfl (Or.inl rfl) (f_lst xa_nil)) rfl (owS_add (by decide)))
  (c_cons (o1 := owS [4]) (s_up (s_for T.po T.calm (i_rng1 rfl (Y.free 10) (x_b1 v_len n_len rfl (Y.free 2) hv_len (w_of (x_var (pv 1) rfl)))) (g_nm (pg_name (i := 5) T.nd rfl (Or.inl rfl)) rfl) (c_one (s_up (s_app1 (i := 4) (pv 4) (x_tup (xa_cons (x_idx T.ix (w_of (x_var (pv 2) rfl)) (w_of (x_var (pv 5) rfl))) (xa_cons (x_t1 v_tuple n_tuple rfl (Y.free 7) hv_tuple (w_of (e_of (f_lc (own := [("t", 10)]) T (i_gr (i_seq (x_idx T.ix (w_of (x_var (pv 1) rfl)) (w_of (x_var (pv 5) rfl))))) (blkOk_by (N := N__law_least) (sc := sc__law_least) (own := [("t", 10)]) (by decide +kernel)) (fun _ _ _ _ _ T1 => (g_nm (pg_name (i := 10) T1.nd rfl (Or.inl rfl)) rfl)) (fun _ _ _ _ _ T1 => ts_nil) (fun _ _ _ _ _ T1 => (x_idx T1.ix (w_of (x_var (pv 2) rfl)) (w_of (x_var (pv 10) rfl)))) (by decide))))) xa_nil))) rfl) (owS_le (by decide)) (by decide)))) (owS_le (by decide)) (by decide))
  (c_cut (o1 := owS []) (c_cons (o1 := owS []) (s_up (s_set (ps_set (i := 6) T.nd rfl (Or.inl rfl) (x_own1 T (c_law_numbered Y) (by decide) rfl (xa_cons (x_var (pv 4) rfl) xa_nil))) rfl) (owS_le (by decide)) (by decide))
  (c_cons (o1 := owS []) (c_if (t_cmp T.eq n_eq b_eq (w_of (x_b1 (v_maxL T.calm) n_maxL rfl (Y.free 11) hv_max (w_of (x_var (pv 6) rfl)))) (w_of (x_b1 (v_maxL T.calm) n_maxL rfl (Y.free 11) hv_max (w_of (x_var (pv 2) rfl)))) rfl) (c_one (s_up s_brk (owS_le (by decide)) (by decide))) (c_cut (o1 := owS []) c_nil (owS_le (by decide)) (by decide)))
  (c_one (s_up (s_set (ps_set (i := 2) T.nd rfl (Or.inr rfl) (x_var (pv 6) rfl)) rfl) (owS_le (by decide)) (by decide))))) (owS_le (by decide)) (by decide))))) (owS_le (by decide)) (by decide))
  (c_cons (o1 := owS [7]) (c_own (ps_set (i := 7) T.nd rfl (Or.inl rfl) (f_lst (xa_cons x_int xa_nil))) rfl (owS_add (by decide)))
  (c_cons (o1 := owS [7, 8]) (c_own (ps_set (i := 8) T.nd rfl (Or.inr rfl) (f_dicK (x_idx T.ix (w_of (x_var (pv 2) rfl)) (w_of x_int)) x_int)) rfl (owS_add (by decide)))
  (c_cons (o1 := owS [7, 8]) (s_up (s_for T.po T.calm (i_rng1 rfl (Y.free 10) (x_b1 v_len n_len rfl (Y.free 2) hv_len (w_of (x_var (pv 1) rfl)))) (g_nm (pg_name (i := 9) T.nd rfl (Or.inl rfl)) rfl) (c_cons (o1 := owS [7, 8]) (c_if (t_cmp y_ge n_ge b_ge (w_of (x_var (pv 9) rfl)) (w_of (x_b1 v_len n_len rfl (Y.free 2) hv_len (x_own (pv 7)))) rfl) (c_one (s_up s_brk (owS_le (by decide)) (by decide))) (c_cut (o1 := owS [7, 8]) c_nil (owS_le (by decide)) (by decide)))
  (c_one (s_up (s_for T.po T.calm (i_seq (x_idx T.ix (w_of (x_var (pv 1) rfl)) (w_of (x_idx T.ix (x_own (pv 7)) (w_of (x_var (pv 9) rfl)))))) (g_nm (pg_name (i := 10) T.nd rfl (Or.inl rfl)) rfl) (c_one (c_if (t_cmp T.nin n_notin b_notin (w_of (x_idx T.ix (w_of (x_var (pv 2) rfl)) (w_of (x_var (pv 10) rfl)))) (x_own (pv 8)) rfl) (c_cons (o1 := owS [7, 8]) (s_up (s_setL (i := 8) (ps_asg (x_b1 v_len n_len rfl (Y.free 2) hv_len (x_own (pv 7))) (pg_sub (pv 8) (x_idx T.ix (w_of (x_var (pv 2) rfl)) (w_of (x_var (pv 10) rfl))) T.st)) rfl) (owS_le (by decide)) (by decide))
  (c_one (s_up (s_app1 (i := 7) (pv 7) (x_var (pv 10) rfl) rfl) (owS_le (by decide)) (by decide)))) (c_cut (o1 := owS [7, 8]) c_nil (owS_le (by decide)) (by decide))))) (owS_le (by decide)) (by decide))))) (owS_le (by decide)) (by decide))
  (c_cut (o1 := owS []) (c_cons (o1 := owS [11]) (c_own (ps_set (i := 11) T.nd rfl (Or.inl rfl) (f_lst xa_nil)) rfl (owS_add (by decide)))
  (c_cons (o1 := owS [11]) (s_up (s_for T.po T.calm (i_seq (x_var (pv 7) rfl)) (g_nm (pg_name (i := 5) T.nd rfl (Or.inl rfl)) rfl) (c_one (s_up (s_app1 (i := 11) (pv 11) (x_t1 v_tuple n_tuple rfl (Y.free 7) hv_tuple (w_of (e_of (f_lc (own := [("t", 10)]) T (i_gr (i_seq (x_idx T.ix (w_of (x_var (pv 1) rfl)) (w_of (x_var (pv 5) rfl))))) (blkOk_by (N := N__law_least) (sc := sc__law_least) (own := [("t", 10)]) (by decide +kernel)) (fun _ _ _ _ _ T2 => (g_nm (pg_name (i := 10) T2.nd rfl (Or.inl rfl)) rfl)) (fun _ _ _ _ _ T2 => ts_nil) (fun _ _ _ _ _ T2 => (x_idx T2.ix (w_of (x_var (pv 8) rfl)) (w_of (x_idx T2.ix (w_of (x_var (pv 2) rfl)) (w_of (x_var (pv 10) rfl)))))) (by decide))))) rfl) (owS_le (by decide)) (by decide)))) (owS_le (by decide)) (by decide))
  (c_cut (o1 := owS []) (c_one (s_up (s_ret (e_of (f_lst (xa_cons (x_var (pv 11) rfl) (xa_cons (e_of (f_lc (own := [("s", 5)]) T (i_gr (i_seq (x_var (pv 7) rfl))) (blkOk_by (N := N__law_least) (sc := sc__law_least) (own := [("s", 5)]) (by decide +kernel)) (fun _ _ _ _ _ T3 => (g_nm (pg_name (i := 5) T3.nd rfl (Or.inl rfl)) rfl)) (fun _ _ _ _ _ T3 => ts_nil) (fun _ _ _ _ _ T3 => (x_idx T3.ix (w_of (x_idx T3.ix (w_of (x_var (pv 0) rfl)) (w_of x_int))) (w_of (x_var (pv 5) rfl)))) (by decide))) xa_nil))))) (owS_le (by decide)) (by decide))) (owS_le (by decide)) (by decide)))) (owS_le (by decide)) (by decide)))))))))
theorem S__law_number : FnScope N__law_number ["tables", "letters"] sc__law_number := ⟨rfl, rfl, rfl, by decide +kernel, rfl, by decide +kernel, by decide +kernel⟩
theorem c_law_number (Y : Fs P w K mg) : CallOk P w K mg base 1 "_law_number" d__law_number ["tables", "letters"] 2 m_law_number :=
  def_ok (d := d__law_number) (N := N__law_number) (ps := ["tables", "letters"]) (p := 2) (m := b__law_number) (k := 0) (ow := ow__law_number) (Y.def_ 18) (Y.glo 33) S__law_number rfl rfl (by decide) (fun _ _ _ _ _ _ us hl => match us, hl with | [_, _], _ => rfl) (fun cdv A outer s H E T => (ss_cons (s_set (ps_set (i := 2) T.nd rfl (Or.inl rfl) x_int) rfl)
  (ss_cons (s_set (ps_set (i := 3) T.nd rfl (Or.inl rfl) x_int) rfl)
  (ss_cons (s_for T.po T.calm (i_rng1 rfl (Y.free 10) (x_b1 v_len n_len rfl (Y.free 2) hv_len (w_of (x_var (pv 1) rfl)))) (g_nm (pg_name (i := 4) T.nd rfl (Or.inl rfl)) rfl) (ss_cons (s_set (ps_set (i := 2) T.nd rfl (Or.inl rfl) (x_bin y_add n_add (w_of (x_var (pv 2) rfl)) (w_of (x_bin y_shl n_shl (w_of (x_idx T.ix (w_of (x_idx T.ix (w_of (x_idx T.ix (w_of (x_var (pv 0) rfl)) (w_of x_int))) (w_of (x_var (pv 3) rfl)))) (w_of (x_idx T.ix (w_of (x_var (pv 1) rfl)) (w_of (x_var (pv 4) rfl)))))) (w_of (x_var (pv 4) rfl)))))) rfl)
  (ss_one (s_set (ps_set (i := 3) T.nd rfl (Or.inl rfl) (x_idx T.ix (w_of (x_idx T.ix (w_of (x_idx T.ix (w_of (x_var (pv 0) rfl)) (w_of x_int))) (w_of (x_var (pv 3) rfl)))) (w_of (x_idx T.ix (w_of (x_var (pv 1) rfl)) (w_of (x_var (pv 4) rfl)))))) rfl))))
  (ss_one (s_ret (x_var (pv 2) rfl)))))))
theorem S__law_copied : FnScope N__law_copied ["cell", "nexts", "outs", "states"] sc__law_copied := ⟨rfl, rfl, rfl, by decide +kernel, rfl, by decide +kernel, by decide +kernel⟩
theorem c_law_copied (Y : Fs P w K mg) : CallOk P w K mg base 3 "_law_copied" d__law_copied ["cell", "nexts", "outs", "states"] 4 m_law_copied :=
  def_ok (d := d__law_copied) (N := N__law_copied) (ps := ["cell", "nexts", "outs", "states"]) (p := 4) (m := b__law_copied) (k := 2) (ow := ow__law_copied) (oN := owS []) (oB := owS []) (Y.def_ 19) (Y.glo 34) S__law_copied rfl rfl (by decide) (fun _ _ _ _ _ _ us hl => match us, hl with | [_, _, _, _], _ => rfl) (fun cdv A outer s H E T => (c_cons (o1 := owS []) (s_up (s_set (ps_set (i := 4) T.nd rfl (Or.inl rfl) (x_b1 v_len n_len rfl (Y.free 2) hv_len (w_of (x_var (pv 1) rfl)))) rfl) (owS_le (by decide)) (by decide))
  (c_cons (o1 := owS []) (s_up (s_set (ps_set (i := 5) T.nd rfl (Or.inl rfl) (x_b1 v_len n_len rfl (Y.free 2) hv_len (w_of (x_idx T.ix (w_of (x_var (pv 1) rfl)) (w_of x_int))))) rfl) (owS_le (by decide)) (by decide))
  (c_cons (o1 := owS []) (s_up (s_set (ps_set (i := 6) T.nd rfl (Or.inl rfl) (x_own1 T (c_law_draws Y) (by decide) rfl (xa_cons (x_var (pv 0) rfl) (xa_cons (x_bin y_add n_add (w_of (e_of (f_rep (f_lst (xa_cons (x_var (pv 4) rfl) xa_nil)) (w_of (x_bin y_sub n_sub (w_of (x_var (pv 3) rfl)) (w_of (x_var (pv 4) rfl))))))) (w_of (e_of (f_rep (f_lst (xa_cons (x_var (pv 3) rfl) xa_nil)) (w_of (x_bin y_mul n_mul (w_of (x_var (pv 3) rfl)) (w_of (x_var (pv 5) rfl)))))))) xa_nil)))) rfl) (owS_le (by decide)) (by decide))
  (c_cons (o1 := owS []) (s_up (s_set (ps_set (i := 7) T.nd rfl (Or.inl rfl) (x_bin y_add n_add (w_of (e_of (f_lrng1 T.calm rfl (Y.free 6) rfl (Y.free 10) (x_var (pv 4) rfl)))) (w_of (x_slc (w_of (x_var (pv 6) rfl)) o_none (o_some (x_bin y_sub n_sub (w_of (x_var (pv 3) rfl)) (w_of (x_var (pv 4) rfl)))))))) rfl) (owS_le (by decide)) (by decide))
  (c_scat rfl rfl (by decide) (by decide) (s_nest (i := 8) (own := [("s", 9)]) T rfl rfl rfl (i_gr (i_rng1 rfl (Y.free 10) (x_var (pv 4) rfl))) (blkOk_by (N := N__law_copied) (sc := sc__law_copied) (own := [("s", 9)]) (by decide +kernel)) (fun _ _ _ _ _ T1 => (g_nm (pg_name (i := 9) T1.nd rfl (Or.inl rfl)) rfl))) (s_scat (i := 8) T.po T.calm (i_rng1 rfl (Y.free 10) (x_var (pv 3) rfl)) (g_nm (pg_name (i := 9) T.nd rfl (Or.inl rfl)) rfl) (pv 8) (x_idx T.ix (w_of (x_var (pv 7) rfl)) (w_of (x_var (pv 9) rfl))) (x_var (pv 9) rfl))
  (c_cons (o1 := owS [10]) (c_own (ps_set (i := 10) T.nd rfl (Or.inl rfl) (f_lst xa_nil)) rfl (owS_add (by decide)))
  (c_cons (o1 := owS [10]) (s_up (s_for T.po T.calm (i_rng1 rfl (Y.free 10) (x_var (pv 3) rfl)) (g_nm (pg_name (i := 9) T.nd rfl (Or.inl rfl)) rfl) (c_cons (o1 := owS [10, 11]) (c_own (ps_set (i := 11) T.nd rfl (Or.inl rfl) (f_lst xa_nil)) rfl (owS_add (by decide)))
  (c_cons (o1 := owS [10, 11]) (s_up (s_for T.po T.calm (i_rng1 rfl (Y.free 10) (x_var (pv 5) rfl)) (g_nm (pg_name (i := 12) T.nd rfl (Or.inl rfl)) rfl) (c_cons (o1 := owS [10, 11]) (s_up (s_set (ps_set (i := 13) T.nd rfl (Or.inl rfl) (x_idx T.ix (w_of (x_var (pv 8) rfl)) (w_of (x_idx T.ix (w_of (x_idx T.ix (w_of (x_var (pv 1) rfl)) (w_of (x_idx T.ix (w_of (x_var (pv 7) rfl)) (w_of (x_var (pv 9) rfl)))))) (w_of (x_var (pv 12) rfl)))))) rfl) (owS_le (by decide)) (by decide))
  (c_one (s_up (s_app1 (i := 11) (pv 11) (x_idx T.ix (w_of (x_var (pv 13) rfl)) (w_of (x_bin y_mod n_mod (w_of (x_idx T.ix (w_of (x_var (pv 6) rfl)) (w_of (x_bin y_add n_add (w_of (x_bin y_add n_add (w_of (x_bin y_sub n_sub (w_of (x_var (pv 3) rfl)) (w_of (x_var (pv 4) rfl)))) (w_of (x_bin y_mul n_mul (w_of (x_var (pv 9) rfl)) (w_of (x_var (pv 5) rfl)))))) (w_of (x_var (pv 12) rfl)))))) (w_of (x_b1 v_len n_len rfl (Y.free 2) hv_len (w_of (x_var (pv 13) rfl))))))) rfl) (owS_le (by decide)) (by decide))))) (owS_le (by decide)) (by decide))
  (c_cut (o1 := owS [10]) (c_one (s_up (s_app1 (i := 10) (pv 10) (x_t1 v_tuple n_tuple rfl (Y.free 7) hv_tuple (w_of (x_var (pv 11) rfl))) rfl) (owS_le (by decide)) (by decide))) (owS_le (by decide)) (by decide))))) (owS_le (by decide)) (by decide))
  (c_cut (o1 := owS []) (c_one (s_up (s_ret (e_of (f_lst (xa_cons (x_var (pv 10) rfl) (xa_cons (e_of (f_lc (own := [("s", 9)]) T (i_gr (i_seq (x_var (pv 7) rfl))) (blkOk_by (N := N__law_copied) (sc := sc__law_copied) (own := [("s", 9)]) (by decide +kernel)) (fun _ _ _ _ _ T2 => (g_nm (pg_name (i := 9) T2.nd rfl (Or.inl rfl)) rfl)) (fun _ _ _ _ _ T2 => ts_nil) (fun _ _ _ _ _ T2 => (x_idx T2.ix (w_of (x_var (pv 2) rfl)) (w_of (x_var (pv 9) rfl)))) (by decide))) xa_nil))))) (owS_le (by decide)) (by decide))) (owS_le (by decide)) (by decide))))))))))
theorem S__law_ring : FnScope N__law_ring ["bits", "wide"] sc__law_ring := ⟨rfl, rfl, rfl, by decide +kernel, rfl, by decide +kernel, by decide +kernel⟩
theorem c_law_ring (Y : Fs P w K mg) : CallOk P w K mg base 1 "_law_ring" d__law_ring ["bits", "wide"] 2 m_law_ring :=
  def_ok (d := d__law_ring) (N := N__law_ring) (ps := ["bits", "wide"]) (p := 2) (m := b__law_ring) (k := 0) (ow := ow__law_ring) (oN := owS []) (oB := owS []) (Y.def_ 20) (Y.glo 35) S__law_ring rfl rfl (by decide) (fun _ _ _ _ _ _ us hl => match us, hl with | [_, _], _ => rfl) (fun cdv A outer s H E T => (c_cons (o1 := owS []) (s_up (s_set (ps_set (i := 2) T.nd rfl (Or.inl rfl) (x_b1 v_len n_len rfl (Y.free 2) hv_len (w_of (x_var (pv 0) rfl)))) rfl) (owS_le (by decide)) (by decide))
  (c_cons (o1 := owS [3]) (c_own (ps_set (i := 3) T.nd rfl (Or.inl rfl) (f_lst xa_nil)) rfl (owS_add (by decide)))
  (c_cons (o1 := owS [3, 4]) (c_own (ps_set (i := 4) T.nd rfl (Or.inl rfl) (f_lst xa_nil)) rfl (owS_add (by decide)))
  (c_cons (o1 := owS [3, 4]) (s_up (s_for T.po T.calm (i_rng1 rfl (Y.free 10) (x_var (pv 2) rfl)) (g_nm (pg_name (i := 5) T.nd rfl (Or.inl rfl)) rfl) (c_cons (o1 := owS [3, 4]) (s_up (s_set (ps_set (i := 6) T.nd rfl (Or.inl rfl) (x_bin y_mod n_mod (w_of (x_bin y_add n_add (w_of (x_var (pv 5) rfl)) (w_of x_int))) (w_of (x_var (pv 2) rfl)))) rfl) (owS_le (by decide)) (by decide))
  (c_cons (o1 := owS [3, 4]) (s_up (s_set (ps_set (i := 7) T.nd rfl (Or.inl rfl) (x_idx T.ix (w_of (x_var (pv 0) rfl)) (w_of (x_var (pv 5) rfl)))) rfl) (owS_le (by decide)) (by decide))
  (c_cons (o1 := owS [3, 4]) (s_up (s_app1 (i := 3) (pv 3) (x_bin y_trep n_trep (w_of (x_tup (xa_cons (x_var (pv 6) rfl) xa_nil))) (w_of (x_var (pv 1) rfl))) rfl) (owS_le (by decide)) (by decide))
  (c_one (s_up (s_app1 (i := 4) (pv 4) (x_bin y_trep n_trep (w_of (x_tup (xa_cons (x_var (pv 7) rfl) xa_nil))) (w_of (x_var (pv 1) rfl))) rfl) (owS_le (by decide)) (by decide))))))) (owS_le (by decide)) (by decide))
  (c_cut (o1 := owS []) (c_one (s_up (s_ret (e_of (f_lst (xa_cons (x_var (pv 3) rfl) (xa_cons (x_var (pv 4) rfl) xa_nil))))) (owS_le (by decide)) (by decide))) (owS_le (by decide)) (by decide)))))))
theorem S__law_rings : FnScope N__law_rings ["small", "large", "wide"] sc__law_rings := ⟨rfl, rfl, rfl, by decide +kernel, rfl, by decide +kernel, by decide +kernel⟩
theorem c_law_rings (Y : Fs P w K mg) : CallOk P w K mg base 2 "_law_rings" d__law_rings ["small", "large", "wide"] 3 m_law_rings :=
  def_ok (d := d__law_rings) (N := N__law_rings) (ps := ["small", "large", "wide"]) (p := 3) (m := b__law_rings) (k := 1) (ow := ow__law_rings) (oN := owS []) (oB := owS []) (Y.def_ 21) (Y.glo 36) S__law_rings rfl rfl (by decide) (fun _ _ _ _ _ _ us hl => match us, hl with | [_, _, _], _ => rfl) (fun cdv A outer s H E T => (c_cons (o1 := owS []) (s_up (s_set (ps_set (i := 3) T.nd rfl (Or.inl rfl) (x_bin y_sub n_sub (w_of (x_bin y_add n_add (w_of (x_var (pv 0) rfl)) (w_of (x_var (pv 1) rfl)))) (w_of x_int))) rfl) (owS_le (by decide)) (by decide))
  (c_cons (o1 := owS [4]) (c_own (ps_set (i := 4) T.nd rfl (Or.inl rfl) (f_lrng1 T.calm rfl (Y.free 6) rfl (Y.free 10) (x_var (pv 3) rfl))) rfl (owS_add (by decide)))
  (c_cons (o1 := owS [4]) (s_up (s_for T.po T.calm (i_rng1 rfl (Y.free 10) (x_var (pv 3) rfl)) (g_nm (pg_name (i := 5) T.nd rfl (Or.inl rfl)) rfl) (c_one (s_up (s_for T.po T.calm (i_rng1 rfl (Y.free 10) (x_var (pv 3) rfl)) (g_nm (pg_name (i := 6) T.nd rfl (Or.inl rfl)) rfl) (c_one (s_up (s_for T.po T.calm (i_seq (e_of (f_lst (xa_cons (x_var (pv 0) rfl) (xa_cons (x_var (pv 1) rfl) xa_nil))))) (g_nm (pg_name (i := 7) T.nd rfl (Or.inl rfl)) rfl) (c_one (c_if (t_cmp y_lt n_lt b_lt (w_of (x_bin y_add n_add (w_of (x_var (pv 6) rfl)) (w_of (x_var (pv 7) rfl)))) (w_of (x_var (pv 3) rfl)) rfl) (c_cons (o1 := owS [4]) (s_up (s_set (ps_set (i := 8) T.nd rfl (Or.inl rfl) (x_b2 (v_min2 T.calm) n_min2 rfl (Y.free 9) hv_min (w_of (x_idx T.ix (x_own (pv 4)) (w_of (x_var (pv 6) rfl)))) (w_of (x_idx T.ix (x_own (pv 4)) (w_of (x_bin y_add n_add (w_of (x_var (pv 6) rfl)) (w_of (x_var (pv 7) rfl)))))))) rfl) (owS_le (by decide)) (by decide))
  (c_cons (o1 := owS [4]) (s_up (s_setL (i := 4) (ps_asg (x_var (pv 8) rfl) (pg_sub (pv 4) (x_var (pv 6) rfl) T.st)) rfl) (owS_le (by decide)) (by decide))
  (c_one (s_up (s_setL (i := 4) (ps_asg (x_var (pv 8) rfl) (pg_sub (pv 4) (x_bin y_add n_add (w_of (x_var (pv 6) rfl)) (w_of (x_var (pv 7) rfl))) T.st)) rfl) (owS_le (by decide)) (by decide))))) (c_cut (o1 := owS [4]) c_nil (owS_le (by decide)) (by decide))))) (owS_le (by decide)) (by decide)))) (owS_le (by decide)) (by decide)))) (owS_le (by decide)) (by decide))
  (c_cut (o1 := owS []) (c_cons (o1 := owS []) (s_up (s_set (s_f (s_lc0 (i := 9) (own := [("group", 10)]) T rfl rfl rfl (i_gr (i_seq (x_var (pv 4) rfl))) (blkOk_by (N := N__law_rings) (sc := sc__law_rings) (own := [("group", 10)]) (by decide +kernel)) (fun _ _ _ _ _ T1 => (g_nm (pg_name (i := 10) T1.nd rfl (Or.inl rfl)) rfl)) (fun _ _ _ _ _ T1 => ts_nil) (fun _ _ _ _ _ T1 => (x_t1 v_int n_int rfl (Y.free 4) hv_int (w_of (x_cmp T1.eq n_eq (w_of (x_var (pv 10) rfl)) (w_of x_int) rfl)))) (by decide))) rfl) (owS_le (by decide)) (by decide))
  (c_one (s_up (s_ret (e_of (f_lst (xa_cons (x_own1 T (c_law_ring Y) (by decide) rfl (xa_cons (x_slc (w_of (x_var (pv 9) rfl)) o_none (o_some (x_var (pv 0) rfl))) (xa_cons (x_var (pv 2) rfl) xa_nil))) (xa_cons (x_own1 T (c_law_ring Y) (by decide) rfl (xa_cons (x_slc (w_of (x_var (pv 9) rfl)) o_none (o_some (x_var (pv 1) rfl))) (xa_cons (x_var (pv 2) rfl) xa_nil))) xa_nil))))) (owS_le (by decide)) (by decide)))) (owS_le (by decide)) (by decide))))))
theorem S__law_spoilt : FnScope N__law_spoilt ["tables", "draws"] sc__law_spoilt := ⟨rfl, rfl, rfl, by decide +kernel, rfl, by decide +kernel, by decide +kernel⟩
theorem c_law_spoilt (Y : Fs P w K mg) : CallOk P w K mg base 1 "_law_spoilt" d__law_spoilt ["tables", "draws"] 2 m_law_spoilt :=
  def_ok (d := d__law_spoilt) (N := N__law_spoilt) (ps := ["tables", "draws"]) (p := 2) (m := b__law_spoilt) (k := 0) (ow := ow__law_spoilt) (oN := owS []) (oB := owS []) (Y.def_ 22) (Y.glo 37) S__law_spoilt rfl rfl (by decide) (fun _ _ _ _ _ _ us hl => match us, hl with | [_, _], _ => rfl) (fun cdv A outer s H E T => (c_cons (o1 := owS [2]) (c_own (ps_set (i := 2) T.nd rfl (Or.inl rfl) (f_list rfl rfl (Y.free 6) (w_of (x_idx T.ix (w_of (x_var (pv 0) rfl)) (w_of x_int))))) rfl (owS_add (by decide)))
  (c_cons (o1 := owS [2, 3]) (c_own (ps_set (i := 3) T.nd rfl (Or.inl rfl) (f_list rfl rfl (Y.free 6) (w_of (x_idx T.ix (w_of (x_var (pv 0) rfl)) (w_of x_int))))) rfl (owS_add (by decide)))
  (c_cons (o1 := owS [2, 3]) (s_up (s_set (ps_set (i := 4) T.nd rfl (Or.inl rfl) (x_bin y_mod n_mod (w_of (x_idx T.ix (w_of (x_var (pv 1) rfl)) (w_of x_int))) (w_of (x_b1 v_len n_len rfl (Y.free 2) hv_len (x_own (pv 2)))))) rfl) (owS_le (by decide)) (by decide))
  (c_cons (o1 := owS [2, 3]) (s_up (s_set (ps_set (i := 5) T.nd rfl (Or.inl rfl) (x_bin y_mod n_mod (w_of (x_idx T.ix (w_of (x_var (pv 1) rfl)) (w_of x_int))) (w_of (x_b1 v_len n_len rfl (Y.free 2) hv_len (w_of (x_idx T.ix (x_own (pv 2)) (w_of x_int))))))) rfl) (owS_le (by decide)) (by decide))
  (c_cons (o1 := owS []) (c_if (PW.pt (t_or (t_cmp T.eq n_eq b_eq (w_of (x_bin y_mod n_mod (w_of (x_idx T.ix (w_of (x_var (pv 1) rfl)) (w_of x_int))) (w_of x_int))) (w_of x_int) rfl) (t_or1 (t_cmp T.eq n_eq b_eq (w_of (x_b1 v_len n_len rfl (Y.free 2) hv_len (x_own (pv 2)))) (w_of x_int) rfl)))) (c_cut (o1 := owS [3]) (c_cons (o1 := owS [3, 6]) (c_own (ps_set (i := 6) T.nd rfl (Or.inl rfl) (f_list rfl rfl (Y.free 6) (w_of (x_idx T.ix (x_own (pv 3)) (w_of (x_var (pv 4) rfl)))))) rfl (owS_add (by decide)))
  (c_cons (o1 := owS [3, 6]) (s_up (s_setL (i := 6) (ps_asg (x_bin y_sub n_sub (w_of x_int) (w_of (x_idx T.ix (x_own (pv 6)) (w_of (x_var (pv 5) rfl))))) (pg_sub (pv 6) (x_var (pv 5) rfl) T.st)) rfl) (owS_le (by decide)) (by decide))
  (c_cut (o1 := owS [3]) (c_one (c_end (o1 := owS [3]) (s_up (s_setL (i := 3) (ps_asg (x_t1 v_tuple n_tuple rfl (Y.free 7) hv_tuple (w_of (x_var (pv 6) rfl))) (pg_sub (pv 3) (x_var (pv 4) rfl) T.st)) rfl) (owS_le (by decide)) (by decide)) (owS_le (by decide)) (by decide))) (owS_le (by decide)) (by decide)))) (owS_le (by decide)) (by decide)) (c_cut (o1 := owS [2]) (c_cons (o1 := owS [2, 6]) (c_own (ps_set (i := 6) T.nd rfl (Or.inl rfl) (f_list rfl rfl (Y.free 6) (w_of (x_idx T.ix (x_own (pv 2)) (w_of (x_var (pv 4) rfl)))))) rfl (owS_add (by decide)))
  (c_cons (o1 := owS [2, 6]) (s_up (s_setL (i := 6) (ps_asg (x_bin y_mod n_mod (w_of (x_bin y_add n_add (w_of (x_bin y_add n_add (w_of (x_idx T.ix (x_own (pv 6)) (w_of (x_var (pv 5) rfl)))) (w_of x_int))) (w_of (x_bin y_mod n_mod (w_of (x_idx T.ix (w_of (x_var (pv 1) rfl)) (w_of x_int))) (w_of (x_bin y_sub n_sub (w_of (x_b1 v_len n_len rfl (Y.free 2) hv_len (x_own (pv 2)))) (w_of x_int))))))) (w_of (x_b1 v_len n_len rfl (Y.free 2) hv_len (x_own (pv 2))))) (pg_sub (pv 6) (x_var (pv 5) rfl) T.st)) rfl) (owS_le (by decide)) (by decide))
  (c_cut (o1 := owS [2]) (c_one (c_end (o1 := owS [2]) (s_up (s_setL (i := 2) (ps_asg (x_t1 v_tuple n_tuple rfl (Y.free 7) hv_tuple (w_of (x_var (pv 6) rfl))) (pg_sub (pv 2) (x_var (pv 4) rfl) T.st)) rfl) (owS_le (by decide)) (by decide)) (owS_le (by decide)) (by decide))) (owS_le (by decide)) (by decide)))) (owS_le (by decide)) (by decide)))
  (c_one (s_up (s_ret (e_of (f_lst (xa_cons (x_var (pv 2) rfl) (xa_cons (x_var (pv 3) rfl) xa_nil))))) (owS_le (by decide)) (by decide)))))))))
theorem S__law_table : FnScope N__law_table ["cell", "states", "wide", "top"] sc__law_table := ⟨rfl, rfl, rfl, by decide +kernel, rfl, by decide +kernel, by decide +kernel⟩
theorem c_law_table (Y : Fs P w K mg) : CallOk P w K mg base 3 "_law_table" d__law_table ["cell", "states", "wide", "top"] 4 m_law_table :=
  def_ok (d := d__law_table) (N := N__law_table) (ps := ["cell", "states", "wide", "top"]) (p := 4) (m := b__law_table) (k := 2) (ow := ow__law_table) (Y.def_ 23) (Y.glo 38) S__law_table rfl rfl (by decide) (fun _ _ _ _ _ _ us hl => match us, hl with | [_, _, _, _], _ => rfl) (fun cdv A outer s H E T => (ss_cons (s_set (ps_set (i := 4) T.nd rfl (Or.inr rfl) (x_own1 T (c_law_draws Y) (by decide) rfl (xa_cons (x_var (pv 0) rfl) (xa_cons (e_of (f_rep (f_lst (xa_cons (x_var (pv 3) rfl) xa_nil)) (w_of (x_bin y_mul n_mul (w_of (x_var (pv 1) rfl)) (w_of (x_var (pv 2) rfl)))))) xa_nil)))) rfl)
  (ss_one (s_ret (e_of (f_lc (own := [("s", 5)]) T (i_gr (i_rng1 rfl (Y.free 10) (x_var (pv 1) rfl))) (blkOk_by (N := N__law_table) (sc := sc__law_table) (own := [("s", 5)]) (by decide +kernel)) (fun _ _ _ _ _ T1 => (g_nm (pg_name (i := 5) T1.nd rfl (Or.inl rfl)) rfl)) (fun _ _ _ _ _ T1 => ts_nil) (fun _ _ _ _ _ T1 => (x_t1 v_tuple n_tuple rfl (Y.free 7) hv_tuple (w_of (x_slc (w_of (x_var (pv 4) rfl)) (o_some (x_bin y_mul n_mul (w_of (x_var (pv 5) rfl)) (w_of (x_var (pv 2) rfl)))) (o_some (x_bin y_mul n_mul (w_of (x_bin y_add n_add (w_of (x_var (pv 5) rfl)) (w_of x_int))) (w_of (x_var (pv 2) rfl)))))))) (by decide)))))))
theorem S__law_two : FnScope N__law_two ["script", "wide", "draws"] sc__law_two := ⟨rfl, rfl, rfl, by decide +kernel, rfl, by decide +kernel, by decide +kernel⟩
theorem c_law_two (Y : Fs P w K mg) : CallOk P w K mg base 4 "_law_two" d__law_two ["script", "wide", "draws"] 3 m_law_two :=
  def_ok (d := d__law_two) (N := N__law_two) (ps := ["script", "wide", "draws"]) (p := 3) (m := b__law_two) (k := 3) (ow := ow__law_two) (Y.def_ 24) (Y.glo 39) S__law_two rfl rfl (by decide) (fun _ _ _ _ _ _ us hl => match us, hl with | [_, _, _], _ => rfl) (fun cdv A outer s H E T => (ss_cons (s_if (t_cmp T.eq n_eq b_eq (w_of (x_idx T.ix (w_of (x_var (pv 2) rfl)) (w_of x_int))) (w_of x_int) rfl) (ss_cons (s_set (ps_set (i := 3) T.nd rfl (Or.inl rfl) (x_bin y_add n_add (w_of x_int) (w_of (x_bin y_mod n_mod (w_of (x_idx T.ix (w_of (x_var (pv 2) rfl)) (w_of x_int))) (w_of x_int))))) rfl)
  (ss_cons (s_set (ps_set (i := 4) T.nd rfl (Or.inl rfl) (x_idx T.ix (w_of (e_of (f_lst (xa_cons (x_bin y_add n_add (w_of (x_var (pv 3) rfl)) (w_of x_int)) (xa_cons (x_bin y_add n_add (w_of (x_bin y_mul n_mul (w_of x_int) (w_of (x_var (pv 3) rfl)))) (w_of x_int)) xa_nil))))) (w_of (x_bin y_mod n_mod (w_of (x_idx T.ix (w_of (x_var (pv 2) rfl)) (w_of x_int))) (w_of x_int))))) rfl)
  (ss_cons (s_set (ps_set (i := 5) T.nd rfl (Or.inl rfl) (x_own1 T (c_law_rings Y) (by decide) rfl (xa_cons (x_var (pv 3) rfl) (xa_cons (x_var (pv 4) rfl) (xa_cons (x_var (pv 1) rfl) xa_nil))))) rfl)
  (ss_cons (s_if (t_cmp T.eq n_eq b_eq (w_of (x_bin y_mod n_mod (w_of (x_idx T.ix (w_of (x_var (pv 2) rfl)) (w_of x_int))) (w_of x_int))) (w_of x_int) rfl) (ss_one (s_ret (e_of (f_lst (xa_cons (x_idx T.ix (w_of (x_var (pv 5) rfl)) (w_of x_int)) (xa_cons (x_idx T.ix (w_of (x_var (pv 5) rfl)) (w_of x_int)) xa_nil)))))) ss_nil)
  (ss_one (s_ret (x_var (pv 5) rfl))))))) ss_nil)
  (ss_cons (s_if (t_cmp T.eq n_eq b_eq (w_of (x_idx T.ix (w_of (x_var (pv 2) rfl)) (w_of x_int))) (w_of x_int) rfl) (ss_cons (s_set (ps_set (i := 6) T.nd rfl (Or.inl rfl) (x_bin y_add n_add (w_of x_int) (w_of (x_bin y_mod n_mod (w_of (x_idx T.ix (w_of (x_var (pv 2) rfl)) (w_of x_int))) (w_of x_int))))) rfl)
  (ss_cons (s_set (ps_set (i := 7) T.nd rfl (Or.inl rfl) (x_bin y_add n_add (w_of x_int) (w_of (x_bin y_mod n_mod (w_of (x_idx T.ix (w_of (x_var (pv 2) rfl)) (w_of x_int))) (w_of x_int))))) rfl)
  (ss_cons (s_set (ps_set (i := 8) T.nd rfl (Or.inl rfl) (e_of (f_lst (xa_cons (x_own1 T (c_law_table Y) (by decide) rfl (xa_cons (x_own1 T (c_law_cell Y) (by decide) rfl (xa_cons (x_var (pv 0) rfl) (xa_cons x_int xa_nil))) (xa_cons (x_var (pv 6) rfl) (xa_cons (x_var (pv 1) rfl) (xa_cons (x_var (pv 6) rfl) xa_nil))))) (xa_cons (x_own1 T (c_law_table Y) (by decide) rfl (xa_cons (x_own1 T (c_law_cell Y) (by decide) rfl (xa_cons (x_var (pv 0) rfl) (xa_cons x_int xa_nil))) (xa_cons (x_var (pv 6) rfl) (xa_cons (x_var (pv 1) rfl) (xa_cons x_int xa_nil))))) xa_nil))))) rfl)
  (ss_cons (s_set (ps_set (i := 9) T.nd rfl (Or.inl rfl) (e_of (f_lst (xa_cons (x_own1 T (c_law_table Y) (by decide) rfl (xa_cons (x_own1 T (c_law_cell Y) (by decide) rfl (xa_cons (x_var (pv 0) rfl) (xa_cons x_int xa_nil))) (xa_cons (x_var (pv 7) rfl) (xa_cons (x_var (pv 1) rfl) (xa_cons (x_var (pv 7) rfl) xa_nil))))) (xa_cons (x_own1 T (c_law_table Y) (by decide) rfl (xa_cons (x_own1 T (c_law_cell Y) (by decide) rfl (xa_cons (x_var (pv 0) rfl) (xa_cons x_int xa_nil))) (xa_cons (x_var (pv 7) rfl) (xa_cons (x_var (pv 1) rfl) (xa_cons x_int xa_nil))))) xa_nil))))) rfl)
  (ss_one (s_ret (e_of (f_lst (xa_cons (x_var (pv 8) rfl) (xa_cons (x_var (pv 9) rfl) xa_nil)))))))))) ss_nil)
  (ss_cons (s_set (ps_set (i := 10) T.nd rfl (Or.inl rfl) (x_bin y_add n_add (w_of x_int) (w_of (x_bin y_mod n_mod (w_of (x_idx T.ix (w_of (x_var (pv 2) rfl)) (w_of x_int))) (w_of x_int))))) rfl)
  (ss_cons (s_set (ps_set (i := 11) T.nd rfl (Or.inl rfl) (x_own1 T (c_law_table Y) (by decide) rfl (xa_cons (x_own1 T (c_law_cell Y) (by decide) rfl (xa_cons (x_var (pv 0) rfl) (xa_cons x_int xa_nil))) (xa_cons (x_var (pv 10) rfl) (xa_cons (x_var (pv 1) rfl) (xa_cons (x_var (pv 10) rfl) xa_nil)))))) rfl)
  (ss_cons (s_set (ps_set (i := 12) T.nd rfl (Or.inl rfl) (x_own1 T (c_law_table Y) (by decide) rfl (xa_cons (x_own1 T (c_law_cell Y) (by decide) rfl (xa_cons (x_var (pv 0) rfl) (xa_cons x_int xa_nil))) (xa_cons (x_var (pv 10) rfl) (xa_cons (x_var (pv 1) rfl) (xa_cons x_int xa_nil)))))) rfl)
  (ss_cons (s_set (ps_set (i := 8) T.nd rfl (Or.inl rfl) (x_own1 T (c_law_copied Y) (by decide) rfl (xa_cons (x_own1 T (c_law_cell Y) (by decide) rfl (xa_cons (x_var (pv 0) rfl) (xa_cons x_int xa_nil))) (xa_cons (x_var (pv 11) rfl) (xa_cons (x_var (pv 12) rfl) (xa_cons (x_bin y_add n_add (w_of (x_var (pv 10) rfl)) (w_of (x_bin y_mod n_mod (w_of (x_idx T.ix (w_of (x_var (pv 2) rfl)) (w_of x_int))) (w_of (x_bin y_sub n_sub (w_of x_int) (w_of (x_var (pv 10) rfl))))))) xa_nil)))))) rfl)
  (ss_cons (s_set (ps_set (i := 9) T.nd rfl (Or.inl rfl) (x_own1 T (c_law_copied Y) (by decide) rfl (xa_cons (x_own1 T (c_law_cell Y) (by decide) rfl (xa_cons (x_var (pv 0) rfl) (xa_cons x_int xa_nil))) (xa_cons (x_var (pv 11) rfl) (xa_cons (x_var (pv 12) rfl) (xa_cons (x_bin y_add n_add (w_of (x_var (pv 10) rfl)) (w_of (x_bin y_mod n_mod (w_of (x_idx T.ix (w_of (x_var (pv 2) rfl)) (w_of x_int))) (w_of (x_bin y_sub n_sub (w_of x_int) (w_of (x_var (pv 10) rfl))))))) xa_nil)))))) rfl)
  (ss_cons (s_if (t_cmp T.eq n_eq b_eq (w_of (x_bin y_mod n_mod (w_of (x_idx T.ix (w_of (x_var (pv 2) rfl)) (w_of x_int))) (w_of x_int))) (w_of x_int) rfl) (ss_one (s_set (ps_set (i := 9) T.nd rfl (Or.inl rfl) (x_own1 T (c_law_spoilt Y) (by decide) rfl (xa_cons (x_var (pv 9) rfl) (xa_cons (x_own1 T (c_law_draws Y) (by decide) rfl (xa_cons (x_own1 T (c_law_cell Y) (by decide) rfl (xa_cons (x_var (pv 0) rfl) (xa_cons x_int xa_nil))) (xa_cons (e_of (f_lst (xa_cons x_int (xa_cons x_int (xa_cons x_int (xa_cons x_int xa_nil)))))) xa_nil))) xa_nil)))) rfl)) ss_nil)
  (ss_one (s_ret (e_of (f_lst (xa_cons (x_var (pv 8) rfl) (xa_cons (x_var (pv 9) rfl) xa_nil)))))))))))))))
theorem S_is_reading : FnScope N_is_reading ["value", "inputs"] sc_is_reading := ⟨rfl, rfl, rfl, by decide +kernel, rfl, by decide +kernel, by decide +kernel⟩
theorem c_is_reading (Y : Fs P w K mg) : CallOk P w K mg base 3 "is_reading" d_is_reading ["value", "inputs"] 2 m_is_reading :=
  def_ok (d := d_is_reading) (N := N_is_reading) (ps := ["value", "inputs"]) (p := 2) (m := b_is_reading) (k := 2) (ow := ow_is_reading) (Y.def_ 25) (Y.glo 40) S_is_reading rfl rfl (by decide) (fun _ _ _ _ _ _ us hl => match us, hl with | [_, _], _ => rfl) (fun cdv A outer s H E T => (ss_cons (s_if (t_not (t_tst (w_of (x_isi1 (cs := CS) (t := .tup) rfl (kit_of_b (Y.more 0)) rfl (Y.free 0) (w_of (x_var (pv 0) rfl)) (pe_bltn rfl (Y.free 7) hv_tuple rfl))) (by intro _; rfl))) (ss_one (s_ret x_bl)) ss_nil)
  (ss_one (s_ret (x_b1 (v_all T.calm) n_all rfl (Y.free 8) hv_all (w_of (e_of (f_lc (own := [("letter", 2)]) T (i_gr (i_seq (x_var (pv 0) rfl))) (blkOk_by (N := N_is_reading) (sc := sc_is_reading) (own := [("letter", 2)]) (by decide +kernel)) (fun _ _ _ _ _ T1 => (g_nm (pg_name (i := 2) T1.nd rfl (Or.inl rfl)) rfl)) (fun _ _ _ _ _ T1 => ts_nil) (fun _ _ _ _ _ T1 => (x_own1 T1 (c_is_below Y) (by decide) rfl (xa_cons (x_var (pv 2) rfl) (xa_cons (x_bin y_shl n_shl (w_of x_int) (w_of (x_var (pv 1) rfl))) xa_nil)))) (by decide)))))))))
theorem S_Machine_bits_written : FnScope N_Machine_bits_written ["self", "reading"] sc_Machine_bits_written := ⟨rfl, rfl, rfl, by decide +kernel, rfl, by decide +kernel, by decide +kernel⟩
theorem c_Machine_bits_written (Y : Fs P w K mg) : MethOk P w K mg base 4 "Machine" "bits_written" 2 m_Machine_bits_written :=
  meth_def (d := d_Machine_bits_written) (N := N_Machine_bits_written) (ps := ["self", "reading"]) (p := 2) (m := b_Machine_bits_written) (k := 3) (ow := ow_Machine_bits_written) (oN := owS []) (oB := owS []) (Y.def_ 26) (Y.cls 14) (Y.meth 41) S_Machine_bits_written rfl rfl (by decide) (fun _ _ _ _ _ _ us hl => match us, hl with | [_, _], _ => rfl) (fun cdv A outer s H E T => (c_cons (o1 := owS []) (c_if (t_not (t_tst (w_of (x_own1 T (c_is_reading Y) (by decide) rfl (xa_cons (x_var (pv 1) rfl) (xa_cons (x_attr (att_ok (Y.more 1)) (w_of (x_var (pv 0) rfl))) xa_nil)))) (by intro _; rfl))) (c_one (s_up (s_raise T (er_InvalidReading Y) (by decide) rfl (xa_cons (x_var (pv 1) rfl) xa_nil)) (owS_le (by decide)) (by decide))) (c_cut (o1 := owS []) c_nil (owS_le (by decide)) (by decide)))
  (c_cons (o1 := owS []) (s_up (s_set (ps_set (i := 2) T.nd rfl (Or.inl rfl) x_int) rfl) (owS_le (by decide)) (by decide))
  (c_cons (o1 := owS [3]) (c_own (ps_set (i := 3) T.nd rfl (Or.inl rfl) (f_lst xa_nil)) rfl (owS_add (by decide)))
  (c_cons (o1 := owS [3]) (s_up (s_for T.po T.calm (i_seq (x_var (pv 1) rfl)) (g_nm (pg_name (i := 4) T.nd rfl (Or.inl rfl)) rfl) (c_cons (o1 := owS [3]) (s_up (s_app1 (i := 3) (pv 3) (x_idx T.ix (w_of (x_idx T.ix (w_of (x_attr (att_ok (Y.more 3)) (w_of (x_var (pv 0) rfl)))) (w_of (x_var (pv 2) rfl)))) (w_of (x_var (pv 4) rfl))) rfl) (owS_le (by decide)) (by decide))
  (c_one (s_up (s_set (ps_set (i := 2) T.nd rfl (Or.inl rfl) (x_idx T.ix (w_of (x_idx T.ix (w_of (x_attr (att_ok (Y.more 2)) (w_of (x_var (pv 0) rfl)))) (w_of (x_var (pv 2) rfl)))) (w_of (x_var (pv 4) rfl)))) rfl) (owS_le (by decide)) (by decide))))) (owS_le (by decide)) (by decide))
  (c_cut (o1 := owS []) (c_one (s_up (s_ret (x_t1 v_tuple n_tuple rfl (Y.free 7) hv_tuple (w_of (x_var (pv 3) rfl)))) (owS_le (by decide)) (by decide))) (owS_le (by decide)) (by decide)))))))
theorem S_is_number : FnScope N_is_number ["value"] sc_is_number := ⟨rfl, rfl, rfl, by decide +kernel, rfl, by decide +kernel, by decide +kernel⟩
theorem c_is_number (Y : Fs P w K mg) : CallOk P w K mg base 2 "is_number" d_is_number ["value"] 1 m_is_number :=
  def_ok (d := d_is_number) (N := N_is_number) (ps := ["value"]) (p := 1) (m := b_is_number) (k := 1) (ow := ow_is_number) (Y.def_ 27) (Y.glo 42) S_is_number rfl rfl (by decide) (fun _ _ _ _ _ _ us hl => match us, hl with | [_], _ => rfl) (fun cdv A outer s H E T => (ss_one (s_ret (x_and (x_own1 T (c_is_integer Y) (by decide) rfl (xa_cons (x_var (pv 0) rfl) xa_nil)) (x_one (x_cmp y_ge n_ge (w_of (x_var (pv 0) rfl)) (w_of x_int) rfl))))))
theorem S_is_word : FnScope N_is_word ["value", "width"] sc_is_word := ⟨rfl, rfl, rfl, by decide +kernel, rfl, by decide +kernel, by decide +kernel⟩
theorem c_is_word (Y : Fs P w K mg) : CallOk P w K mg base 3 "is_word" d_is_word ["value", "width"] 2 m_is_word :=
  def_ok (d := d_is_word) (N := N_is_word) (ps := ["value", "width"]) (p := 2) (m := b_is_word) (k := 2) (ow := ow_is_word) (Y.def_ 28) (Y.glo 43) S_is_word rfl rfl (by decide) (fun _ _ _ _ _ _ us hl => match us, hl with | [_, _], _ => rfl) (fun cdv A outer s H E T => (ss_one (s_ret (x_and (x_own1 T (c_is_number Y) (by decide) rfl (xa_cons (x_var (pv 0) rfl) xa_nil)) (x_one (x_cmp y_le n_le (w_of (x_bits (w_of (x_var (pv 0) rfl)))) (w_of (x_var (pv 1) rfl)) rfl))))))
theorem S_are_words : FnScope N_are_words ["value", "width", "least", "most"] sc_are_words := ⟨rfl, rfl, rfl, by decide +kernel, rfl, by decide +kernel, by decide +kernel⟩
theorem c_are_words (Y : Fs P w K mg) : CallOk P w K mg base 4 "are_words" d_are_words ["value", "width", "least", "most"] 4 m_are_words :=
  def_ok (d := d_are_words) (N := N_are_words) (ps := ["value", "width", "least", "most"]) (p := 4) (m := b_are_words) (k := 3) (ow := ow_are_words) (Y.def_ 29) (Y.glo 44) S_are_words rfl rfl (by decide) (fun _ _ _ _ _ _ us hl => match us, hl with | [_, _, _, _], _ => rfl) (fun cdv A outer s H E T => (ss_cons (s_set (ps_set (i := 4) T.nd rfl (Or.inl rfl) (x_own1 T (c_as_tuple Y) (by decide) rfl (xa_cons (x_var (pv 0) rfl) xa_nil))) rfl)
  (ss_cons (s_if (PW.pt (t_or (t_isN (w_of (x_var (pv 4) rfl))) (t_or1 (t_not (t_chain y_le y_le n_le n_le (Bl.chain b_le) (w_of (x_var (pv 2) rfl)) (w_of (x_b1 v_len n_len rfl (Y.free 2) hv_len (w_of (x_var (pv 4) rfl)))) (w_of (x_var (pv 3) rfl))))))) (ss_one (s_ret x_bl)) ss_nil)
  (ss_one (s_ret (x_b1 (v_all T.calm) n_all rfl (Y.free 8) hv_all (w_of (e_of (f_lc (own := [("word", 5)]) T (i_gr (i_seq (x_var (pv 4) rfl))) (blkOk_by (N := N_are_words) (sc := sc_are_words) (own := [("word", 5)]) (by decide +kernel)) (fun _ _ _ _ _ T1 => (g_nm (pg_name (i := 5) T1.nd rfl (Or.inl rfl)) rfl)) (fun _ _ _ _ _ T1 => ts_nil) (fun _ _ _ _ _ T1 => (x_own1 T1 (c_is_word Y) (by decide) rfl (xa_cons (x_var (pv 5) rfl) (xa_cons (x_var (pv 1) rfl) xa_nil)))) (by decide))))))))))
theorem S_letters_of : FnScope N_letters_of ["width", "words"] sc_letters_of := ⟨rfl, rfl, rfl, by decide +kernel, rfl, by decide +kernel, by decide +kernel⟩
theorem c_letters_of (Y : Fs P w K mg) : CallOk P w K mg base 1 "letters_of" d_letters_of ["width", "words"] 2 m_letters_of :=
  def_ok (d := d_letters_of) (N := N_letters_of) (ps := ["width", "words"]) (p := 2) (m := b_letters_of) (k := 0) (ow := ow_letters_of) (oN := owS []) (oB := owS []) (Y.def_ 30) (Y.glo 45) S_letters_of rfl rfl (by decide) (fun _ _ _ _ _ _ us hl => match us, hl with | [_, _], _ => rfl) (fun cdv A outer s H E T => (c_cons (o1 := owS [2]) (c_own (ps_set (i := 2) T.nd rfl (Or.inl rfl) (f_lst xa_nil)) rfl (owS_add (by decide)))
  (c_cons (o1 := owS [2]) (s_up (s_for T.po T.calm (i_rng1 rfl (Y.free 10) (x_var (pv 0) rfl)) (g_nm (pg_name (i := 3) T.nd rfl (Or.inr rfl)) rfl) (c_one (s_up (s_app1 (i := 2) (pv 2) (x_b1 (v_sum T.calm) n_sum rfl (Y.free 12) hv_sum (w_of (e_of (f_lc (own := [("i", 4)]) T (i_gr (i_rng1 rfl (Y.free 10) (x_b1 v_len n_len rfl (Y.free 2) hv_len (w_of (x_var (pv 1) rfl))))) (blkOk_by (N := N_letters_of) (sc := sc_letters_of) (own := [("i", 4)]) (by decide +kernel)) (fun _ _ _ _ _ T1 => (g_nm (pg_name (i := 4) T1.nd rfl (Or.inl rfl)) rfl)) (fun _ _ _ _ _ T1 => ts_nil) (fun _ _ _ _ _ T1 => (x_bin y_shl n_shl (w_of (x_bin y_and n_and (w_of (x_bin y_shr n_shr (w_of (x_idx T1.ix (w_of (x_var (pv 1) rfl)) (w_of (x_var (pv 4) rfl)))) (w_of (x_var (pv 3) rfl)))) (w_of x_int))) (w_of (x_var (pv 4) rfl)))) (by decide))))) rfl) (owS_le (by decide)) (by decide)))) (owS_le (by decide)) (by decide))
  (c_cut (o1 := owS []) (c_one (s_up (s_ret (x_t1 v_tuple n_tuple rfl (Y.free 7) hv_tuple (w_of (x_var (pv 2) rfl)))) (owS_le (by decide)) (by decide))) (owS_le (by decide)) (by decide)))))
theorem S_Machine_write : FnScope N_Machine_write ["self", "width", "words"] sc_Machine_write := ⟨rfl, rfl, rfl, by decide +kernel, rfl, by decide +kernel, by decide +kernel⟩
theorem c_Machine_write (Y : Fs P w K mg) : MethOk P w K mg base 5 "Machine" "write" 3 m_Machine_write :=
  meth_def (d := d_Machine_write) (N := N_Machine_write) (ps := ["self", "width", "words"]) (p := 3) (m := b_Machine_write) (k := 4) (ow := ow_Machine_write) (Y.def_ 31) (Y.cls 14) (Y.meth 46) S_Machine_write rfl rfl (by decide) (fun _ _ _ _ _ _ us hl => match us, hl with | [_, _, _], _ => rfl) (fun cdv A outer s H E T => (ss_cons (s_if (t_not (t_tst (w_of (x_own1 T (c_is_number Y) (by decide) rfl (xa_cons (x_var (pv 1) rfl) xa_nil))) (by intro _; rfl))) (ss_one (s_raise T (er_InvalidNumber Y) (by decide) rfl (xa_cons (x_var (pv 1) rfl) xa_nil))) ss_nil)
  (ss_cons (s_if (t_not (t_tst (w_of (x_own1 T (c_are_words Y) (by decide) rfl (xa_cons (x_var (pv 2) rfl) (xa_cons (x_var (pv 1) rfl) (xa_cons (x_attr (att_ok (Y.more 1)) (w_of (x_var (pv 0) rfl))) (xa_cons (x_attr (att_ok (Y.more 1)) (w_of (x_var (pv 0) rfl))) xa_nil)))))) (by intro _; rfl))) (ss_one (s_raise T (er_InvalidWords Y) (by decide) rfl (xa_cons (x_var (pv 2) rfl) xa_nil))) ss_nil)
  (ss_cons (s_set (ps_set (i := 3) T.nd rfl (Or.inl rfl) (x_methS (mn := "bits_written") rfl T (c_Machine_bits_written Y) (by decide) (x_var (pv 0) rfl) (xa_cons (x_own1 T (c_letters_of Y) (by decide) rfl (xa_cons (x_var (pv 1) rfl) (xa_cons (x_var (pv 2) rfl) xa_nil))) xa_nil))) rfl)
  (ss_one (s_ret (x_b1 (v_sum T.calm) n_sum rfl (Y.free 12) hv_sum (w_of (e_of (f_lc (own := [("place", 4), ("bit", 5)]) T (i_gr (i_enum rfl (Y.free 5) (x_var (pv 3) rfl))) (blkOk_by (N := N_Machine_write) (sc := sc_Machine_write) (own := [("place", 4), ("bit", 5)]) (by decide +kernel)) (fun _ _ _ _ _ T1 => (g_tup T1.calm (gs_cons (g_nm (pg_name (i := 4) T1.nd rfl (Or.inl rfl)) rfl) (gs_cons (g_nm (pg_name (i := 5) T1.nd rfl (Or.inl rfl)) rfl) gs_nil)))) (fun _ _ _ _ _ T1 => ts_nil) (fun _ _ _ _ _ T1 => (x_bin y_shl n_shl (w_of (x_var (pv 5) rfl)) (w_of (x_var (pv 4) rfl)))) (by decide)))))))))))
theorem S__law_written : FnScope N__law_written ["machine", "tables", "letters"] sc__law_written := ⟨rfl, rfl, rfl, by decide +kernel, rfl, by decide +kernel, by decide +kernel⟩
theorem c_law_written (Y : Fs P w K mg) : CallOk P w K mg base 6 "_law_written" d__law_written ["machine", "tables", "letters"] 3 m_law_written :=
  def_ok (d := d__law_written) (N := N__law_written) (ps := ["machine", "tables", "letters"]) (p := 3) (m := b__law_written) (k := 5) (ow := ow__law_written) (oN := owS []) (oB := owS []) (Y.def_ 32) (Y.glo 47) S__law_written rfl rfl (by decide) (fun _ _ _ _ _ _ us hl => match us, hl with | [_, _, _], _ => rfl) (fun cdv A outer s H E T => (c_cons (o1 := owS [3]) (c_own (ps_set (i := 3) T.nd rfl (Or.inl rfl) (f_lst xa_nil)) rfl (owS_add (by decide)))
  (c_cons (o1 := owS [3]) (s_up (s_for T.po T.calm (i_rng1 rfl (Y.free 10) (x_attr (att_ok (Y.more 1)) (w_of (x_var (pv 0) rfl)))) (g_nm (pg_name (i := 4) T.nd rfl (Or.inl rfl)) rfl) (c_cons (o1 := owS [3]) (s_up (s_set (ps_set (i := 5) T.nd rfl (Or.inl rfl) x_int) rfl) (owS_le (by decide)) (by decide))
  (c_cons (o1 := owS [3]) (s_up (s_for T.po T.calm (i_rng1 rfl (Y.free 10) (x_b1 v_len n_len rfl (Y.free 2) hv_len (w_of (x_var (pv 2) rfl)))) (g_nm (pg_name (i := 6) T.nd rfl (Or.inl rfl)) rfl) (c_one (s_up (s_set (ps_set (i := 5) T.nd rfl (Or.inl rfl) (x_bin y_add n_add (w_of (x_var (pv 5) rfl)) (w_of (x_bin y_shl n_shl (w_of (x_bin y_and n_and (w_of (x_bin y_shr n_shr (w_of (x_idx T.ix (w_of (x_var (pv 2) rfl)) (w_of (x_var (pv 6) rfl)))) (w_of (x_var (pv 4) rfl)))) (w_of x_int))) (w_of (x_var (pv 6) rfl)))))) rfl) (owS_le (by decide)) (by decide)))) (owS_le (by decide)) (by decide))
  (c_one (s_up (s_app1 (i := 3) (pv 3) (x_var (pv 5) rfl) rfl) (owS_le (by decide)) (by decide)))))) (owS_le (by decide)) (by decide))
  (c_cut (o1 := owS []) (c_cons (o1 := owS []) (s_up (s_set (ps_set (i := 7) T.nd rfl (Or.inl rfl) (x_methS (mn := "write") rfl T (c_Machine_write Y) (by decide) (x_var (pv 0) rfl) (xa_cons (x_b1 v_len n_len rfl (Y.free 2) hv_len (w_of (x_var (pv 2) rfl))) (xa_cons (x_var (pv 3) rfl) xa_nil)))) rfl) (owS_le (by decide)) (by decide))
  (c_one (s_up (s_ret (x_and (x_isi1 (cs := CS) (t := .int) rfl (kit_of_b (Y.more 0)) rfl (Y.free 0) (w_of (x_var (pv 7) rfl)) (pe_bltn rfl (Y.free 4) hv_int rfl)) (x_and (x_not (x_isi1 (cs := CS) (t := .bl) rfl (kit_of_b (Y.more 0)) rfl (Y.free 0) (w_of (x_var (pv 7) rfl)) (pe_bltn rfl (Y.free 1) hv_bool rfl))) (x_one (x_cmp T.eq n_eq (w_of (x_var (pv 7) rfl)) (w_of (x_own1 T (c_law_number Y) (by decide) rfl (xa_cons (x_var (pv 1) rfl) (xa_cons (x_var (pv 2) rfl) xa_nil)))) rfl))))) (owS_le (by decide)) (by decide)))) (owS_le (by decide)) (by decide)))))
theorem S_first_unlike_letter : FnScope N_first_unlike_letter ["one", "other"] sc_first_unlike_letter := ⟨rfl, rfl, rfl, by decide +kernel, rfl, by decide +kernel, by decide +kernel⟩
theorem c_first_unlike_letter (Y : Fs P w K mg) : CallOk P w K mg base 1 "first_unlike_letter" d_first_unlike_letter ["one", "other"] 2 m_first_unlike_letter :=
  def_ok (d := d_first_unlike_letter) (N := N_first_unlike_letter) (ps := ["one", "other"]) (p := 2) (m := b_first_unlike_letter) (k := 0) (ow := ow_first_unlike_letter) (Y.def_ 33) (Y.glo 48) S_first_unlike_letter rfl rfl (by decide) (fun _ _ _ _ _ _ us hl => match us, hl with | [_, _], _ => rfl) (fun cdv A outer s H E T => (ss_cons (s_set (ps_set (i := 2) T.nd rfl (Or.inl rfl) x_int) rfl)
  (ss_cons (s_while T.po (t_cmp T.eq n_eq b_eq (w_of (x_idx T.ix (w_of (x_var (pv 0) rfl)) (w_of (x_var (pv 2) rfl)))) (w_of (x_idx T.ix (w_of (x_var (pv 1) rfl)) (w_of (x_var (pv 2) rfl)))) rfl) (ss_one (s_aug (ps_aug (i := 2) T.nd rfl (Or.inl rfl) (w_of x_int) ip_add) rfl h_iadd n_iadd rfl)))
  (ss_one (s_ret (x_var (pv 2) rfl))))))
theorem S_way_back : FnScope N_way_back ["ways", "goal"] sc_way_back := ⟨rfl, rfl, rfl, by decide +kernel, rfl, by decide +kernel, by decide +kernel⟩
theorem c_way_back (Y : Fs P w K mg) : CallOk P w K mg base 1 "way_back" d_way_back ["ways", "goal"] 2 m_way_back :=
  def_ok (d := d_way_back) (N := N_way_back) (ps := ["ways", "goal"]) (p := 2) (m := b_way_back) (k := 0) (ow := ow_way_back) (oN := owS []) (oB := owS []) (Y.def_ 34) (Y.glo 49) S_way_back rfl rfl (by decide) (fun _ _ _ _ _ _ us hl => match us, hl with | [_, _], _ => rfl) (fun cdv A outer s H E T => (c_cons (o1 := owS [2]) (c_own (ps_set (i := 2) T.nd rfl (Or.inl rfl) (f_lst xa_nil)) rfl (owS_add (by decide)))
  (c_cons (o1 := owS [2]) (s_up (s_set (ps_set (i := 3) T.nd rfl (Or.inl rfl) (x_idx T.ix (w_of (x_var (pv 0) rfl)) (w_of (x_var (pv 1) rfl)))) rfl) (owS_le (by decide)) (by decide))
  (c_cons (o1 := owS [2]) (s_up (s_while T.po (t_notN (w_of (x_var (pv 3) rfl))) (c_cons (o1 := owS [2]) (s_up (s_app1 (i := 2) (pv 2) (x_idx T.ix (w_of (x_var (pv 3) rfl)) (w_of x_int)) rfl) (owS_le (by decide)) (by decide))
  (c_one (s_up (s_set (ps_set (i := 3) T.nd rfl (Or.inl rfl) (x_idx T.ix (w_of (x_var (pv 0) rfl)) (w_of (x_idx T.ix (w_of (x_var (pv 3) rfl)) (w_of x_int))))) rfl) (owS_le (by decide)) (by decide))))) (owS_le (by decide)) (by decide))
  (c_cut (o1 := owS []) (c_one (s_up (s_ret (x_t1 v_tuple n_tuple rfl (Y.free 7) hv_tuple (w_of (x_rev (w_of (x_var (pv 2) rfl)))))) (owS_le (by decide)) (by decide))) (owS_le (by decide)) (by decide))))))
theorem S_first_split : FnScope N_first_split ["one", "other", "begin"] sc_first_split := ⟨rfl, rfl, rfl, by decide +kernel, rfl, by decide +kernel, by decide +kernel⟩
theorem c_first_split (Y : Fs P w K mg) : CallOk P w K mg base 2 "first_split" d_first_split ["one", "other", "begin"] 3 m_first_split :=
  def_ok (d := d_first_split) (N := N_first_split) (ps := ["one", "other", "begin"]) (p := 3) (m := b_first_split) (k := 1) (ow := ow_first_split) (oN := owS []) (oB := owS []) (Y.def_ 35) (Y.glo 50) S_first_split rfl rfl (by decide) (fun _ _ _ _ _ _ us hl => match us, hl with | [_, _, _], _ => rfl) (fun cdv A outer s H E T => (c_cons (o1 := owS [3]) (c_own (ps_set (i := 3) T.nd rfl (Or.inl rfl) (f_dicT T.dh (x_var (pv 2) rfl) x_non)) rfl (owS_add (by decide)))
  (c_cons (o1 := owS [3, 4]) (c_own (ps_set (i := 4) T.nd rfl (Or.inl rfl) (f_lst (xa_cons (x_var (pv 2) rfl) xa_nil))) rfl (owS_add (by decide)))
  (c_cons (o1 := owS [3, 4]) (s_up (s_set (ps_set (i := 5) T.nd rfl (Or.inl rfl) x_int) rfl) (owS_le (by decide)) (by decide))
  (c_cons (o1 := owS [3, 4]) (s_up (s_while T.po (t_cmp y_lt n_lt b_lt (w_of (x_var (pv 5) rfl)) (w_of (x_b1 v_len n_len rfl (Y.free 2) hv_len (x_own (pv 4)))) rfl) (c_cons (o1 := owS [3, 4]) (s_up (s_gen (ps_asg (x_idx T.ix (x_own (pv 4)) (w_of (x_var (pv 5) rfl))) (g_tup T.calm (gs_cons (g_nm (pg_name (i := 6) T.nd rfl (Or.inl rfl)) rfl) (gs_cons (g_nm (pg_name (i := 7) T.nd rfl (Or.inl rfl)) rfl) gs_nil))))) (owS_le (by decide)) (by decide))
  (c_cons (o1 := owS [3, 4]) (c_if (t_cmp T.ne n_ne b_ne (w_of (x_idx T.ix (w_of (x_attr (att_ok (Y.more 3)) (w_of (x_var (pv 0) rfl)))) (w_of (x_var (pv 6) rfl)))) (w_of (x_idx T.ix (w_of (x_attr (att_ok (Y.more 3)) (w_of (x_var (pv 1) rfl)))) (w_of (x_var (pv 7) rfl)))) rfl) (c_one (s_up (s_ret (x_tup (xa_star (x_own1 T (c_way_back Y) (by decide) rfl (xa_cons (x_var (pv 3) rfl) (xa_cons (x_idx T.ix (w_of (x_var (pv 4) rfl)) (w_of (x_var (pv 5) rfl))) xa_nil))) (xa_cons (x_own1 T (c_first_unlike_letter Y) (by decide) rfl (xa_cons (x_idx T.ix (w_of (x_attr (att_ok (Y.more 3)) (w_of (x_var (pv 0) rfl)))) (w_of (x_var (pv 6) rfl))) (xa_cons (x_idx T.ix (w_of (x_attr (att_ok (Y.more 3)) (w_of (x_var (pv 1) rfl)))) (w_of (x_var (pv 7) rfl))) xa_nil))) xa_nil)))) (owS_le (by decide)) (by decide))) (c_cut (o1 := owS [3, 4]) c_nil (owS_le (by decide)) (by decide)))
  (c_cons (o1 := owS [3, 4]) (s_up (s_for T.po T.calm (i_enumzip rfl (Y.free 5) rfl (Y.free 13) (x_idx T.ix (w_of (x_attr (att_ok (Y.more 2)) (w_of (x_var (pv 0) rfl)))) (w_of (x_var (pv 6) rfl))) (x_idx T.ix (w_of (x_attr (att_ok (Y.more 2)) (w_of (x_var (pv 1) rfl)))) (w_of (x_var (pv 7) rfl)))) (g_tup T.calm (gs_cons (g_nm (pg_name (i := 8) T.nd rfl (Or.inl rfl)) rfl) (gs_cons (g_nm (pg_name (i := 9) T.nd rfl (Or.inl rfl)) rfl) gs_nil))) (c_one (c_if (t_cmp T.nin n_notin b_notin (w_of (x_var (pv 9) rfl)) (x_own (pv 3)) rfl) (c_cons (o1 := owS [3, 4]) (s_up (s_setL (i := 3) (ps_asg (x_tup (xa_cons (x_idx T.ix (x_own (pv 4)) (w_of (x_var (pv 5) rfl))) (xa_cons (x_var (pv 8) rfl) xa_nil))) (pg_sub (pv 3) (x_var (pv 9) rfl) T.st)) rfl) (owS_le (by decide)) (by decide))
  (c_one (s_up (s_app1 (i := 4) (pv 4) (x_var (pv 9) rfl) rfl) (owS_le (by decide)) (by decide)))) (c_cut (o1 := owS [3, 4]) c_nil (owS_le (by decide)) (by decide))))) (owS_le (by decide)) (by decide))
  (c_one (s_up (s_aug (ps_aug (i := 5) T.nd rfl (Or.inl rfl) (w_of x_int) ip_add) rfl h_iadd n_iadd rfl) (owS_le (by decide)) (by decide))))))) (owS_le (by decide)) (by decide))
  (c_cut (o1 := owS []) (c_one (s_up (s_ret x_non) (owS_le (by decide)) (by decide))) (owS_le (by decide)) (by decide)))))))
theorem S_first_unlike : FnScope N_first_unlike ["one", "other"] sc_first_unlike := ⟨rfl, rfl, rfl, by decide +kernel, rfl, by decide +kernel, by decide +kernel⟩
theorem c_first_unlike (Y : Fs P w K mg) : CallOk P w K mg base 3 "first_unlike" d_first_unlike ["one", "other"] 2 m_first_unlike :=
  def_ok (d := d_first_unlike) (N := N_first_unlike) (ps := ["one", "other"]) (p := 2) (m := b_first_unlike) (k := 2) (ow := ow_first_unlike) (Y.def_ 36) (Y.glo 51) S_first_unlike rfl rfl (by decide) (fun _ _ _ _ _ _ us hl => match us, hl with | [_, _], _ => rfl) (fun cdv A outer s H E T => (ss_cons (s_if (t_cmp T.ne n_ne b_ne (w_of (x_attr (att_ok (Y.more 1)) (w_of (x_var (pv 0) rfl)))) (w_of (x_attr (att_ok (Y.more 1)) (w_of (x_var (pv 1) rfl)))) rfl) (ss_one (s_raise T (er_Undefined Y) (by decide) rfl (xa_cons (x_str (s := "inputs")) xa_nil))) ss_nil)
  (ss_one (s_ret (x_own1 T (c_first_split Y) (by decide) rfl (xa_cons (x_var (pv 0) rfl) (xa_cons (x_var (pv 1) rfl) (xa_cons (x_tup (xa_cons x_int (xa_cons x_int xa_nil))) xa_nil))))))))
theorem S_numbered : FnScope N_numbered ["keys"] sc_numbered := ⟨rfl, rfl, rfl, by decide +kernel, rfl, by decide +kernel, by decide +kernel⟩
theorem c_numbered (Y : Fs P w K mg) : CallOk P w K mg base 1 "numbered" d_numbered ["keys"] 1 m_numbered :=
  def_ok (d := d_numbered) (N := N_numbered) (ps := ["keys"]) (p := 1) (m := b_numbered) (k := 0) (ow := ow_numbered) (oN := owS []) (oB := owS []) (Y.def_ 37) (Y.glo 52) S_numbered rfl rfl (by decide) (fun _ _ _ _ _ _ us hl => match us, hl with | [_], _ => rfl) (fun cdv A outer s H E T => (c_cons (o1 := owS [1]) (c_own (ps_set (i := 1) T.nd rfl (Or.inl rfl) (f_dic0 true)) rfl (owS_add (by decide)))
  (c_cons (o1 := owS [1, 2]) (c_own (ps_set (i := 2) T.nd rfl (Or.inl rfl) (f_lst xa_nil)) rfl (owS_add (by decide)))
  (c_cons (o1 := owS [1, 2]) (s_up (s_for T.po T.calm (i_seq (x_var (pv 0) rfl)) (g_nm (pg_name (i := 3) T.nd rfl (Or.inl rfl)) rfl) (c_cons (o1 := owS [1, 2]) (c_if (t_cmp T.nin n_notin b_notin (w_of (x_var (pv 3) rfl)) (x_own (pv 1)) rfl) (c_one (s_up (s_setL (i := 1) (ps_asg (x_b1 v_len n_len rfl (Y.free 2) hv_len (x_own (pv 1))) (pg_sub (pv 1) (x_var (pv 3) rfl) T.st)) rfl) (owS_le (by decide)) (by decide))) (c_cut (o1 := owS [1, 2]) c_nil (owS_le (by decide)) (by decide)))
  (c_one (s_up (s_app1 (i := 2) (pv 2) (x_idx T.ix (x_own (pv 1)) (w_of (x_var (pv 3) rfl))) rfl) (owS_le (by decide)) (by decide))))) (owS_le (by decide)) (by decide))
  (c_cut (o1 := owS []) (c_one (s_up (s_ret (x_var (pv 2) rfl)) (owS_le (by decide)) (by decide))) (owS_le (by decide)) (by decide))))))
theorem S_state_classes : FnScope N_state_classes ["machine"] sc_state_classes := ⟨rfl, rfl, rfl, by decide +kernel, rfl, by decide +kernel, by decide +kernel⟩
theorem c_state_classes (Y : Fs P w K mg) : CallOk P w K mg base 2 "state_classes" d_state_classes ["machine"] 1 m_state_classes :=
  def_ok (d := d_state_classes) (N := N_state_classes) (ps := ["machine"]) (p := 1) (m := b_state_classes) (k := 1) (ow := ow_state_classes) (oN := owS []) (oB := owS []) (Y.def_ 38) (Y.glo 53) S_state_classes rfl rfl (by decide) (fun _ _ _ _ _ _ us hl => match us, hl with | [_], _ => rfl) (fun cdv A outer s H E T => (c_cons (o1 := owS []) (s_up (s_set (ps_set (i := 1) T.nd rfl (Or.inr rfl) (x_own1 T (c_numbered Y) (by decide) rfl (xa_cons (e_of (f_list rfl rfl (Y.free 6) (w_of (x_attr (att_ok (Y.more 3)) (w_of (x_var (pv 0) rfl)))))) xa_nil))) rfl) (owS_le (by decide)) (by decide))
  (c_one (s_up (s_while T.po (t_tst (w_of x_bl) (by intro _; rfl)) (c_cons (o1 := owS [2]) (c_own (ps_set (i := 2) T.nd rfl (Or.inl rfl) (f_lst xa_nil)) rfl (owS_add (by decide)))
  (c_cons (o1 := owS [2]) (s_up (s_for T.po T.calm (i_enum rfl (Y.free 5) (x_attr (att_ok (Y.more 2)) (w_of (x_var (pv 0) rfl)))) (g_tup T.calm (gs_cons (g_nm (pg_name (i := 3) T.nd rfl (Or.inl rfl)) rfl) (gs_cons (g_nm (pg_name (i := 4) T.nd rfl (Or.inl rfl)) rfl) gs_nil))) (c_one (s_up (s_app1 (i := 2) (pv 2) (x_tup (xa_cons (x_idx T.ix (w_of (x_var (pv 1) rfl)) (w_of (x_var (pv 3) rfl))) (xa_cons (x_t1 v_tuple n_tuple rfl (Y.free 7) hv_tuple (w_of (e_of (f_lc (own := [("goal", 6)]) T (i_gr (i_seq (x_var (pv 4) rfl))) (blkOk_by (N := N_state_classes) (sc := sc_state_classes) (own := [("goal", 6)]) (by decide +kernel)) (fun _ _ _ _ _ T1 => (g_nm (pg_name (i := 6) T1.nd rfl (Or.inl rfl)) rfl)) (fun _ _ _ _ _ T1 => ts_nil) (fun _ _ _ _ _ T1 => (x_idx T1.ix (w_of (x_var (pv 1) rfl)) (w_of (x_var (pv 6) rfl)))) (by decide))))) xa_nil))) rfl) (owS_le (by decide)) (by decide)))) (owS_le (by decide)) (by decide))
  (c_cut (o1 := owS []) (c_cons (o1 := owS []) (s_up (s_set (ps_set (i := 5) T.nd rfl (Or.inl rfl) (x_own1 T (c_numbered Y) (by decide) rfl (xa_cons (x_var (pv 2) rfl) xa_nil))) rfl) (owS_le (by decide)) (by decide))
  (c_cons (o1 := owS []) (c_if (t_cmp T.eq n_eq b_eq (w_of (x_b1 (v_maxL T.calm) n_maxL rfl (Y.free 11) hv_max (w_of (x_var (pv 5) rfl)))) (w_of (x_b1 (v_maxL T.calm) n_maxL rfl (Y.free 11) hv_max (w_of (x_var (pv 1) rfl)))) rfl) (c_one (s_up (s_ret (x_var (pv 1) rfl)) (owS_le (by decide)) (by decide))) (c_cut (o1 := owS []) c_nil (owS_le (by decide)) (by decide)))
  (c_one (s_up (s_set (ps_set (i := 1) T.nd rfl (Or.inr rfl) (x_var (pv 5) rfl)) rfl) (owS_le (by decide)) (by decide))))) (owS_le (by decide)) (by decide))))) (owS_le (by decide)) (by decide)))))
theorem S_least_machine : FnScope N_least_machine ["machine"] sc_least_machine := ⟨rfl, rfl, rfl, by decide +kernel, rfl, by decide +kernel, by decide +kernel⟩
theorem c_least_machine (Y : Fs P w K mg) : CallOk P w K mg base 7 "least_machine" d_least_machine ["machine"] 1 m_least_machine :=
  def_ok (d := d_least_machine) (N := N_least_machine) (ps := ["machine"]) (p := 1) (m := b_least_machine) (k := 6) (ow := ow_least_machine) (oN := owS []) (oB := owS []) (Y.def_ 39) (Y.glo 54) S_least_machine rfl rfl (by decide) (fun _ _ _ _ _ _ us hl => match us, hl with | [_], _ => rfl) (fun cdv A outer s H E T => (c_cons (o1 := owS []) (s_up (s_set (ps_set (i := 1) T.nd rfl (Or.inl rfl) (x_own1 T (c_state_classes Y) (by decide) rfl (xa_cons (x_var (pv 0) rfl) xa_nil))) rfl) (owS_le (by decide)) (by decide))
  (c_cons (o1 := owS [2]) (c_own (ps_set (i := 2) T.nd rfl (Or.inl rfl) (f_lst (xa_cons x_int xa_nil))) rfl (owS_add (by decide)))
  (c_cons (o1 := owS [2, 3]) (c_own (ps_set (i := 3) T.nd rfl (Or.inl rfl) (f_dicK (x_idx T.ix (w_of (x_var (pv 1) rfl)) (w_of x_int)) x_int)) rfl (owS_add (by decide)))
  (c_cons (o1 := owS [2, 3, 4]) (c_own (ps_set (i := 4) T.nd rfl (Or.inl rfl) (f_lst xa_nil)) rfl (owS_add (by decide)))
  (c_cons (o1 := owS [2, 3, 4]) (s_up (s_while T.po (t_cmp y_lt n_lt b_lt (w_of (x_b1 v_len n_len rfl (Y.free 2) hv_len (x_own (pv 4)))) (w_of (x_b1 v_len n_len rfl (Y.free 2) hv_len (x_own (pv 2)))) rfl) (c_cons (o1 := owS [2, 3, 4, 5]) (c_own (ps_set (i := 5) T.nd rfl (Or.inl rfl) (f_lst xa_nil)) rfl (owS_add (by decide)))
  (c_cons (o1 := owS [2, 3, 4, 5]) (s_up (s_for T.po T.calm (i_seq (x_idx T.ix (w_of (x_attr (att_ok (Y.more 2)) (w_of (x_var (pv 0) rfl)))) (w_of (x_idx T.ix (x_own (pv 2)) (w_of (x_b1 v_len n_len rfl (Y.free 2) hv_len (x_own (pv 4)))))))) (g_nm (pg_name (i := 6) T.nd rfl (Or.inl rfl)) rfl) (c_cons (o1 := owS [2, 3, 4, 5]) (c_if (t_cmp T.nin n_notin b_notin (w_of (x_idx T.ix (w_of (x_var (pv 1) rfl)) (w_of (x_var (pv 6) rfl)))) (x_own (pv 3)) rfl) (c_cons (o1 := owS [2, 3, 4, 5]) (s_up (s_setL (i := 3) (ps_asg (x_b1 v_len n_len rfl (Y.free 2) hv_len (x_own (pv 2))) (pg_sub (pv 3) (x_idx T.ix (w_of (x_var (pv 1) rfl)) (w_of (x_var (pv 6) rfl))) T.st)) rfl) (owS_le (by decide)) (by decide))
  (c_one (s_up (s_app1 (i := 2) (pv 2) (x_var (pv 6) rfl) rfl) (owS_le (by decide)) (by decide)))) (c_cut (o1 := owS [2, 3, 4, 5]) c_nil (owS_le (by decide)) (by decide)))
  (c_one (s_up (s_app1 (i := 5) (pv 5) (x_idx T.ix (x_own (pv 3)) (w_of (x_idx T.ix (w_of (x_var (pv 1) rfl)) (w_of (x_var (pv 6) rfl))))) rfl) (owS_le (by decide)) (by decide))))) (owS_le (by decide)) (by decide))
  (c_cut (o1 := owS [2, 3, 4]) (c_one (s_up (s_app1 (i := 4) (pv 4) (x_t1 v_tuple n_tuple rfl (Y.free 7) hv_tuple (w_of (x_var (pv 5) rfl))) rfl) (owS_le (by decide)) (by decide))) (owS_le (by decide)) (by decide))))) (owS_le (by decide)) (by decide))
  (c_cut (o1 := owS []) (c_one (s_up (s_ret (x_new (cls := "Machine") T (c_Machine Y) (by decide) rfl (xa_cons (x_attr (att_ok (Y.more 1)) (w_of (x_var (pv 0) rfl))) (xa_cons (x_var (pv 4) rfl) (xa_cons (e_of (f_lc (own := [("state", 7)]) T (i_gr (i_seq (x_var (pv 2) rfl))) (blkOk_by (N := N_least_machine) (sc := sc_least_machine) (own := [("state", 7)]) (by decide +kernel)) (fun _ _ _ _ _ T1 => (g_nm (pg_name (i := 7) T1.nd rfl (Or.inl rfl)) rfl)) (fun _ _ _ _ _ T1 => ts_nil) (fun _ _ _ _ _ T1 => (x_idx T1.ix (w_of (x_attr (att_ok (Y.more 3)) (w_of (x_var (pv 0) rfl)))) (w_of (x_var (pv 7) rfl)))) (by decide))) xa_nil))))) (owS_le (by decide)) (by decide))) (owS_le (by decide)) (by decide))))))))
theorem S_write_alike : FnScope N_write_alike ["one", "other"] sc_write_alike := ⟨rfl, rfl, rfl, by decide +kernel, rfl, by decide +kernel, by decide +kernel⟩
theorem c_write_alike (Y : Fs P w K mg) : CallOk P w K mg base 4 "write_alike" d_write_alike ["one", "other"] 2 m_write_alike :=
  def_ok (d := d_write_alike) (N := N_write_alike) (ps := ["one", "other"]) (p := 2) (m := b_write_alike) (k := 3) (ow := ow_write_alike) (Y.def_ 40) (Y.glo 55) S_write_alike rfl rfl (by decide) (fun _ _ _ _ _ _ us hl => match us, hl with | [_, _], _ => rfl) (fun cdv A outer s H E T => (ss_one (s_ret (x_isN (w_of (x_own1 T (c_first_unlike Y) (by decide) rfl (xa_cons (x_var (pv 0) rfl) (xa_cons (x_var (pv 1) rfl) xa_nil))))))))
theorem S__law_holds : FnScope N__law_holds ["script"] sc__law_holds := ⟨rfl, rfl, rfl, by decide +kernel, rfl, by decide +kernel, by decide +kernel⟩
theorem c_law_holds (Y : Fs P w K mg) : CallOk P w K mg base 8 "_law_holds" d__law_holds ["script"] 1 m_law_holds :=
  def_ok (d := d__law_holds) (N := N__law_holds) (ps := ["script"]) (p := 1) (m := b__law_holds) (k := 7) (ow := ow__law_holds) (Y.def_ 41) (Y.glo 56) S__law_holds rfl rfl (by decide) (fun _ _ _ _ _ _ us hl => match us, hl with | [_], _ => rfl) (fun cdv A outer s H E T => (ss_cons (s_set (ps_set (i := 1) T.nd rfl (Or.inl rfl) (x_own1 T (c_law_draws Y) (by decide) rfl (xa_cons (x_own1 T (c_law_cell Y) (by decide) rfl (xa_cons (x_var (pv 0) rfl) (xa_cons x_int xa_nil))) (xa_cons (e_of (f_lst (xa_cons x_int (xa_cons x_int (xa_cons x_int (xa_cons x_int (xa_cons x_int (xa_cons x_int xa_nil)))))))) xa_nil)))) rfl)
  (ss_cons (s_set (ps_set (i := 2) T.nd rfl (Or.inl rfl) (x_bin y_add n_add (w_of x_int) (w_of (x_idx T.ix (w_of (x_var (pv 1) rfl)) (w_of x_int))))) rfl)
  (ss_cons (s_set (ps_set (i := 3) T.nd rfl (Or.inl rfl) (x_own1 T (c_law_two Y) (by decide) rfl (xa_cons (x_var (pv 0) rfl) (xa_cons (x_bin y_shl n_shl (w_of x_int) (w_of (x_var (pv 2) rfl))) (xa_cons (x_slc (w_of (x_var (pv 1) rfl)) (o_some x_int) o_none) xa_nil))))) rfl)
  (ss_cons (s_set (ps_set (i := 4) T.nd rfl (Or.inl rfl) (x_new (cls := "Machine") T (c_Machine Y) (by decide) rfl (xa_cons (x_var (pv 2) rfl) (xa_cons (x_idx T.ix (w_of (x_idx T.ix (w_of (x_var (pv 3) rfl)) (w_of x_int))) (w_of x_int)) (xa_cons (x_idx T.ix (w_of (x_idx T.ix (w_of (x_var (pv 3) rfl)) (w_of x_int))) (w_of x_int)) xa_nil))))) rfl)
  (ss_cons (s_set (ps_set (i := 5) T.nd rfl (Or.inl rfl) (x_new (cls := "Machine") T (c_Machine Y) (by decide) rfl (xa_cons (x_var (pv 2) rfl) (xa_cons (x_idx T.ix (w_of (x_idx T.ix (w_of (x_var (pv 3) rfl)) (w_of x_int))) (w_of x_int)) (xa_cons (x_idx T.ix (w_of (x_idx T.ix (w_of (x_var (pv 3) rfl)) (w_of x_int))) (w_of x_int)) xa_nil))))) rfl)
  (ss_cons (s_set (ps_set (i := 6) T.nd rfl (Or.inl rfl) (e_of (f_lst (xa_cons (x_own1 T (c_law_least Y) (by decide) rfl (xa_cons (x_idx T.ix (w_of (x_var (pv 3) rfl)) (w_of x_int)) xa_nil)) (xa_cons (x_own1 T (c_law_least Y) (by decide) rfl (xa_cons (x_idx T.ix (w_of (x_var (pv 3) rfl)) (w_of x_int)) xa_nil)) xa_nil))))) rfl)
  (ss_cons (s_set (ps_set (i := 7) T.nd rfl (Or.inl rfl) (x_own1 T (c_least_machine Y) (by decide) rfl (xa_cons (x_var (pv 4) rfl) xa_nil))) rfl)
  (ss_cons (s_set (ps_set (i := 8) T.nd rfl (Or.inl rfl) (x_own1 T (c_least_machine Y) (by decide) rfl (xa_cons (x_var (pv 5) rfl) xa_nil))) rfl)
  (ss_cons (s_if (PW.pt (t_or (t_not (t_tst (w_of (x_own1 T (c_law_is Y) (by decide) rfl (xa_cons (x_var (pv 7) rfl) (xa_cons (x_var (pv 2) rfl) (xa_cons (x_idx T.ix (w_of (x_var (pv 6) rfl)) (w_of x_int)) xa_nil))))) (by intro _; rfl))) (t_or1 (t_not (t_tst (w_of (x_own1 T (c_law_is Y) (by decide) rfl (xa_cons (x_var (pv 8) rfl) (xa_cons (x_var (pv 2) rfl) (xa_cons (x_idx T.ix (w_of (x_var (pv 6) rfl)) (w_of x_int)) xa_nil))))) (by intro _; rfl)))))) (ss_one (s_ret x_bl)) ss_nil)
  (ss_cons (s_set (ps_set (i := 9) T.nd rfl (Or.inl rfl) (x_own1 T (c_law_first Y) (by decide) rfl (xa_cons (x_idx T.ix (w_of (x_var (pv 3) rfl)) (w_of x_int)) (xa_cons (x_idx T.ix (w_of (x_var (pv 3) rfl)) (w_of x_int)) xa_nil)))) rfl)
  (ss_cons (s_set (ps_set (i := 10) T.nd rfl (Or.inl rfl) (x_cmp (y_eqX T T.eq (eqs_cons (eq_ok (c_Machine_eq Y) (by decide)) eqs_nil)) n_eqX (w_of (x_var (pv 7) rfl)) (w_of (x_var (pv 8) rfl)) rfl)) rfl)
  (ss_cons (s_set (ps_set (i := 11) T.nd rfl (Or.inl rfl) (x_own1 T (c_write_alike Y) (by decide) rfl (xa_cons (x_var (pv 4) rfl) (xa_cons (x_var (pv 5) rfl) xa_nil)))) rfl)
  (ss_cons (s_if (PW.pt (t_or (t_not (t_tst (w_of (x_isi1 (cs := CS) (t := .bl) rfl (kit_of_b (Y.more 0)) rfl (Y.free 0) (w_of (x_var (pv 10) rfl)) (pe_bltn rfl (Y.free 1) hv_bool rfl))) (by intro _; rfl))) (t_or1 (t_not (t_tst (w_of (x_isi1 (cs := CS) (t := .bl) rfl (kit_of_b (Y.more 0)) rfl (Y.free 0) (w_of (x_var (pv 11) rfl)) (pe_bltn rfl (Y.free 1) hv_bool rfl))) (by intro _; rfl)))))) (ss_one (s_ret x_bl)) ss_nil)
  (ss_cons (s_if (PW.pt (t_or (t_cmp T.ne n_ne b_ne (w_of (x_var (pv 10) rfl)) (w_of (x_isN (w_of (x_var (pv 9) rfl)))) rfl) (t_or1 (t_cmp T.ne n_ne b_ne (w_of (x_var (pv 11) rfl)) (w_of (x_isN (w_of (x_var (pv 9) rfl)))) rfl)))) (ss_one (s_ret x_bl)) ss_nil)
  (ss_cons (s_set (ps_set (i := 12) T.nd rfl (Or.inl rfl) (x_own1 T (c_first_unlike Y) (by decide) rfl (xa_cons (x_var (pv 4) rfl) (xa_cons (x_var (pv 5) rfl) xa_nil)))) rfl)
  (ss_cons (s_if (t_isN (w_of (x_var (pv 9) rfl))) (ss_cons (s_set (ps_set (i := 13) T.nd rfl (Or.inl rfl) (x_own1 T (c_law_draws Y) (by decide) rfl (xa_cons (x_own1 T (c_law_cell Y) (by decide) rfl (xa_cons (x_var (pv 0) rfl) (xa_cons x_int xa_nil))) (xa_cons (e_of (f_rep (f_lst (xa_cons (x_bin y_shl n_shl (w_of x_int) (w_of (x_var (pv 2) rfl))) xa_nil)) (w_of (x_idx T.ix (w_of (x_var (pv 1) rfl)) (w_of x_int))))) xa_nil)))) rfl)
  (ss_cons (s_if (PW.pt (t_or (t_notN (w_of (x_var (pv 12) rfl))) (t_or1 (t_cmp T.ne n_ne b_ne (w_of (x_own1 T (c_law_number Y) (by decide) rfl (xa_cons (x_idx T.ix (w_of (x_var (pv 3) rfl)) (w_of x_int)) (xa_cons (x_var (pv 13) rfl) xa_nil)))) (w_of (x_own1 T (c_law_number Y) (by decide) rfl (xa_cons (x_idx T.ix (w_of (x_var (pv 3) rfl)) (w_of x_int)) (xa_cons (x_var (pv 13) rfl) xa_nil)))) rfl)))) (ss_one (s_ret x_bl)) ss_nil)
  (ss_one (s_ret (x_and (x_own1 T (c_law_written Y) (by decide) rfl (xa_cons (x_var (pv 4) rfl) (xa_cons (x_idx T.ix (w_of (x_var (pv 3) rfl)) (w_of x_int)) (xa_cons (x_var (pv 13) rfl) xa_nil)))) (x_one (x_own1 T (c_law_written Y) (by decide) rfl (xa_cons (x_var (pv 5) rfl) (xa_cons (x_idx T.ix (w_of (x_var (pv 3) rfl)) (w_of x_int)) (xa_cons (x_var (pv 13) rfl) xa_nil)))))))))) ss_nil)
  (ss_cons (s_if (PW.pt (t_or (t_not (t_tst (w_of (x_own1 T (c_law_same Y) (by decide) rfl (xa_cons (x_var (pv 12) rfl) (xa_cons (x_var (pv 9) rfl) xa_nil)))) (by intro _; rfl))) (t_or1 (t_cmp y_gt n_gt b_gt (w_of (x_b1 v_len n_len rfl (Y.free 2) hv_len (w_of (x_var (pv 12) rfl)))) (w_of (x_bin y_sub n_sub (w_of (x_bin y_add n_add (w_of (x_b1 v_len n_len rfl (Y.free 2) hv_len (w_of (x_idx T.ix (w_of (x_idx T.ix (w_of (x_var (pv 6) rfl)) (w_of x_int))) (w_of x_int))))) (w_of (x_b1 v_len n_len rfl (Y.free 2) hv_len (w_of (x_idx T.ix (w_of (x_idx T.ix (w_of (x_var (pv 6) rfl)) (w_of x_int))) (w_of x_int))))))) (w_of x_int))) rfl)))) (ss_one (s_ret x_bl)) ss_nil)
  (ss_cons (s_set (ps_set (i := 14) T.nd rfl (Or.inl rfl) (x_slc (w_of (x_var (pv 9) rfl)) o_none (o_some (x_un y_neg n_neg (w_of x_int))))) rfl)
  (ss_cons (s_if (PW.pt (t_or (t_cmp T.eq n_eq b_eq (w_of (x_own1 T (c_law_number Y) (by decide) rfl (xa_cons (x_idx T.ix (w_of (x_var (pv 3) rfl)) (w_of x_int)) (xa_cons (x_var (pv 9) rfl) xa_nil)))) (w_of (x_own1 T (c_law_number Y) (by decide) rfl (xa_cons (x_idx T.ix (w_of (x_var (pv 3) rfl)) (w_of x_int)) (xa_cons (x_var (pv 9) rfl) xa_nil)))) rfl) (t_or1 (t_cmp T.ne n_ne b_ne (w_of (x_own1 T (c_law_number Y) (by decide) rfl (xa_cons (x_idx T.ix (w_of (x_var (pv 3) rfl)) (w_of x_int)) (xa_cons (x_var (pv 14) rfl) xa_nil)))) (w_of (x_own1 T (c_law_number Y) (by decide) rfl (xa_cons (x_idx T.ix (w_of (x_var (pv 3) rfl)) (w_of x_int)) (xa_cons (x_var (pv 14) rfl) xa_nil)))) rfl)))) (ss_one (s_ret x_bl)) ss_nil)
  (ss_cons (s_if (PW.pt (t_or (t_not (t_tst (w_of (x_own1 T (c_law_written Y) (by decide) rfl (xa_cons (x_var (pv 4) rfl) (xa_cons (x_idx T.ix (w_of (x_var (pv 3) rfl)) (w_of x_int)) (xa_cons (x_var (pv 9) rfl) xa_nil))))) (by intro _; rfl))) (t_or1 (t_not (t_tst (w_of (x_own1 T (c_law_written Y) (by decide) rfl (xa_cons (x_var (pv 5) rfl) (xa_cons (x_idx T.ix (w_of (x_var (pv 3) rfl)) (w_of x_int)) (xa_cons (x_var (pv 9) rfl) xa_nil))))) (by intro _; rfl)))))) (ss_one (s_ret x_bl)) ss_nil)
  (ss_one (s_ret (x_and (x_own1 T (c_law_written Y) (by decide) rfl (xa_cons (x_var (pv 4) rfl) (xa_cons (x_idx T.ix (w_of (x_var (pv 3) rfl)) (w_of x_int)) (xa_cons (x_var (pv 14) rfl) xa_nil)))) (x_one (x_own1 T (c_law_written Y) (by decide) rfl (xa_cons (x_var (pv 5) rfl) (xa_cons (x_idx T.ix (w_of (x_var (pv 3) rfl)) (w_of x_int)) (xa_cons (x_var (pv 14) rfl) xa_nil)))))))))))))))))))))))))))))
theorem S_law : FnScope N_law ["script"] sc_law := ⟨rfl, rfl, rfl, by decide +kernel, rfl, by decide +kernel, by decide +kernel⟩
theorem law_is (Y : Fs P w K mg) : ∃ fd : FuncData, (∀ (s : Shared) (u : Value), BindsTo s fd ⟨[u], []⟩ [("script", u)]) ∧ ∀ base : Heap, FnOk P w K mg base (L2N.CX P w) 9 (He.ga K "law") fd ["script"] (spM K 1 m_law) :=
  law_ok (qual := "law") (params := defArgs st_law) (body := defBody st_law) (scope := sc_law) (f := He.ga K "law") (N := N_law) (m := b_law) (ow := ow_law) (Y.def_ 42) S_law rfl rfl (fun _ _ _ _ _ _ us hl => match us, hl with | [_], _ => rfl) (fun base cdv A outer s H E T => (ss_one (s_thru T fun T1 => (ss_one (s_ret (x_own1 T1 (c_law_holds Y) (by decide) rfl (xa_cons (x_var (pv 0) rfl) xa_nil)))))))
end
theorem ob_eq (s : PySem.W.SharedT) : ob s = hkY.obs s.abs := obsYG_eq (HandSHeadRun.getT_eq s)
end Py
/-! How the mirrors are computed: equations, loops, comprehensions. -/
namespace Py.U
open PySem
/-! ### equations -/
theorem var_eq {i : Nat} {e : Env} {d : D} (h : e[i]? = some (some d)) : var i e = .ok d := by
  unfold var
  rw [h]
@[simp] theorem cst_eq (d : D) (e : Env) : cst d e = .ok d := rfl
@[simp] theorem un_eq (f : D → Res D) (a : EM) (e : Env) : un f a e = (a e >>= f) := rfl
@[simp] theorem bin_eq (f : D → D → Res D) (a b : EM) (e : Env) : bin f a b e = (a e >>= fun x => b e >>= fun y => f x y) := rfl
@[simp] theorem argN_eq (e : Env) : argN e = .ok [] := rfl
@[simp] theorem argC_eq (a : EM) (r : AM) (e : Env) : argC a r e = (a e >>= fun x => r e >>= fun xs => .ok (x :: xs)) := rfl
@[simp] theorem call_eq (f : List D → Res D) (a : AM) (e : Env) : call f a e = (a e >>= f) := rfl
@[simp] theorem tst_eq (a : EM) (e : Env) : tst a e = (a e >>= truthy) := rfl
@[simp] theorem andT_eq (a b : TM) (e : Env) : andT a b e = (a e >>= fun x => if x then b e else .ok false) := rfl
@[simp] theorem orT_eq (a b : TM) (e : Env) : orT a b e = (a e >>= fun x => if x then .ok true else b e) := rfl
@[simp] theorem notT_eq (a : TM) (e : Env) : notT a e = (a e >>= fun x => .ok (!x)) := rfl
@[simp] theorem ifE_eq (t : TM) (a b : EM) (e : Env) : ifE t a b e = (t e >>= fun x => if x then a e else b e) := rfl
@[simp] theorem ite_eq (t : TM) (a b : SM) (e : Env) : ite t a b e = (t e >>= fun x => if x then a e else b e) := rfl
@[simp] theorem skip_eq (e : Env) : skip e = .ok (.next e) := rfl
@[simp] theorem ret_eq (m : EM) (e : Env) : ret m e = (m e >>= fun d => .ok (.ret d)) := rfl
@[simp] theorem asg_eq (g : GM) (m : EM) (e : Env) : asg g m e = (m e >>= fun d => lift (g d e) >>= fun e' => .ok (.next e')) := rfl
@[simp] theorem gnm_eq (i : Nat) (d : D) (e : Env) : gnm i d e = some (e.set i (some d)) := rfl
@[simp] theorem seq_eq (a b : SM) (e : Env) : seq a b e = (a e >>= fun f => match f with | .next e' => b e' | r => .ok r) := rfl
@[simp] theorem forB_eq (g : GM) (b : SM) (x : D) (e : Env) : forB g b x e = (lift (g x e) >>= b) := rfl
@[simp] theorem drop_eq (m : EM) (e : Env) : Py.drop m e = (m e >>= fun _ => .ok (.next e)) := rfl
@[simp] theorem tupE_eq (a : AM) (e : Env) : tupE a e = (a e >>= fun xs => chk xs.length (.tup xs)) := rfl
@[simp] theorem lstE_eq (a : AM) (e : Env) : lstE a e = (a e >>= fun xs => chk xs.length (.lst xs)) := rfl
@[simp] theorem andE_eq (a b : EM) (e : Env) : andE a b e = (a e >>= fun x => match x with | .bl true => b e | .bl false => .ok (.bl false) | _ => .stuck) := rfl
@[simp] theorem orE_eq (a b : EM) (e : Env) : orE a b e = (a e >>= fun x => match x with | .bl false => b e | .bl true => .ok (.bl true) | _ => .stuck) := rfl
@[simp] theorem chain_eq (f g : D → D → Res D) (a b c : EM) (e : Env) : chain f g a b c e = (a e >>= fun x => b e >>= fun y => f x y >>= fun z => match z with
  | .bl true => c e >>= fun u => g y u
  | .bl false => .ok (.bl false)
  | _ => .stuck) := rfl
@[simp] theorem iseq_eq (a : EM) (e : Env) : iseq a e = (a e >>= fun x => match x with | .lst xs => .ok xs | .tup xs => .ok xs | _ => .stuck) := rfl
@[simp] theorem for_eq (it : IM) (g : GM) (b : SM) (e : Env) : for_ it g b e = (it e >>= fun xs => forL (forB g b) xs e) := rfl
@[simp] theorem app_eq (i : Nat) (m : EM) (e : Env) : app i m e = (var i e >>= fun l => match l with
  | .lst xs => m e >>= fun d => if xs.length < SZ then .ok (.next (e.set i (some (.lst (xs ++ [d]))))) else .stuck
  | _ => .stuck) := rfl
@[simp] theorem aug_eq (i : Nat) (f : D → D → Res D) (m : EM) (e : Env) : aug i f m e = (var i e >>= fun x => m e >>= fun y => f x y >>= fun z => .ok (.next (e.set i (some z)))) := rfl
@[simp] theorem done_next (e : Env) : done (.ok (.next e)) = .ok .non := rfl
@[simp] theorem done_ret (d : D) : done (.ok (.ret d)) = .ok d := rfl
@[simp] theorem thru_eq (m : SM) (e : Env) : thru m e = noexc (m e) := rfl
@[simp] theorem brk_eq (e : Env) : brk e = .ok (.brk e) := rfl
@[simp] theorem cnt_eq (e : Env) : cnt e = .ok (.cnt e) := rfl
@[simp] theorem retN_eq (e : Env) : retN e = .ok (.ret .non) := rfl
@[simp] theorem chk_0 {d : D} : chk 0 d = .ok d := chk_ok (by decide)
@[simp] theorem chk_1 {d : D} : chk 1 d = .ok d := chk_ok (by decide)
@[simp] theorem chk_2 {d : D} : chk 2 d = .ok d := chk_ok (by decide)
@[simp] theorem chk_3 {d : D} : chk 3 d = .ok d := chk_ok (by decide)
@[simp] theorem chk_4 {d : D} : chk 4 d = .ok d := chk_ok (by decide)
@[simp] theorem chk_5 {d : D} : chk 5 d = .ok d := chk_ok (by decide)
@[simp] theorem chk_6 {d : D} : chk 6 d = .ok d := chk_ok (by decide)
@[simp] theorem chk_7 {d : D} : chk 7 d = .ok d := chk_ok (by decide)
@[simp] theorem chk_8 {d : D} : chk 8 d = .ok d := chk_ok (by decide)
@[simp] theorem chk_9 {d : D} : chk 9 d = .ok d := chk_ok (by decide)
@[simp] theorem chk_10 {d : D} : chk 10 d = .ok d := chk_ok (by decide)
@[simp] theorem chk_11 {d : D} : chk 11 d = .ok d := chk_ok (by decide)
@[simp] theorem chk_12 {d : D} : chk 12 d = .ok d := chk_ok (by decide)
@[simp] theorem chk_13 {d : D} : chk 13 d = .ok d := chk_ok (by decide)
@[simp] theorem chk_14 {d : D} : chk 14 d = .ok d := chk_ok (by decide)
@[simp] theorem chk_15 {d : D} : chk 15 d = .ok d := chk_ok (by decide)
@[simp] theorem chk_16 {d : D} : chk 16 d = .ok d := chk_ok (by decide)
@[simp] theorem chk_17 {d : D} : chk 17 d = .ok d := chk_ok (by decide)
@[simp] theorem chk_18 {d : D} : chk 18 d = .ok d := chk_ok (by decide)
@[simp] theorem chk_19 {d : D} : chk 19 d = .ok d := chk_ok (by decide)
@[simp] theorem chk_20 {d : D} : chk 20 d = .ok d := chk_ok (by decide)
@[simp] theorem chk_21 {d : D} : chk 21 d = .ok d := chk_ok (by decide)
@[simp] theorem chk_22 {d : D} : chk 22 d = .ok d := chk_ok (by decide)
@[simp] theorem chk_23 {d : D} : chk 23 d = .ok d := chk_ok (by decide)
/-! ### calls of defs -/
theorem fn1 {n : Nat} {b : SM} {x : D} : fn 1 n b [x] = done (b (some x :: List.replicate (n - 1) none)) := if_pos rfl
theorem fn2 {n : Nat} {b : SM} {x y : D} : fn 2 n b [x, y] = done (b (some x :: some y :: List.replicate (n - 2) none)) := if_pos rfl
theorem fn3 {n : Nat} {b : SM} {x y z : D} : fn 3 n b [x, y, z] = done (b (some x :: some y :: some z :: List.replicate (n - 3) none)) := if_pos rfl
theorem fn4 {n : Nat} {b : SM} {x y z u : D} : fn 4 n b [x, y, z, u] = done (b (some x :: some y :: some z :: some u :: List.replicate (n - 4) none)) := if_pos rfl
/-! ### operators on numbers -/
@[simp] theorem oadd_ii (i j : Int) : oadd (.int i) (.int j) = .ok (.int (i + j)) := rfl
@[simp] theorem osub_ii (i j : Int) : osub (.int i) (.int j) = .ok (.int (i - j)) := rfl
theorem omul_ii {i j : Int} (h : i.natAbs < B64 ∨ j.natAbs < B64) : omul (.int i) (.int j) = .ok (.int (i * j)) := if_pos h
theorem omul_l {i j : Int} (h : -18446744073709551616 < i) (h' : i < 18446744073709551616) : omul (.int i) (.int j) = .ok (.int (i * j)) := omul_ii (.inl (by unfold B64; omega))
theorem omul_r {i j : Int} (h : -18446744073709551616 < j) (h' : j < 18446744073709551616) : omul (.int i) (.int j) = .ok (.int (i * j)) := omul_ii (.inr (by unfold B64; omega))
theorem opow18 : opow (.int 10) (.int 18) = .ok (.int 1000000000000000000) := rfl
theorem omod_ii {i j : Int} (h : 0 < j) : omod (.int i) (.int j) = .ok (.int (i % j)) := if_pos h
theorem ofdiv_ii {i j : Int} (h : 0 < j ∧ j < 1073741824) : ofdiv (.int i) (.int j) = .ok (.int (i / j)) := if_pos h
theorem oshl_ii {i j : Int} (h : 0 ≤ j ∧ (Builtin.Int.intBits i : Int) + j ≤ 134217728) : oshl (.int i) (.int j) = .ok (.int (i * 2 ^ j.toNat)) := if_pos h
theorem oshr_ii {i j : Int} (h : 0 ≤ j) : oshr (.int i) (.int j) = .ok (.int (i / 2 ^ j.toNat)) := if_pos h
@[simp] theorem oand_ii (i j : Int) : oand (.int i) (.int j) = .ok (.int (Builtin.bitAnd i j)) := rfl
@[simp] theorem olt_ii (i j : Int) : olt (.int i) (.int j) = .ok (.bl (decide (i < j))) := rfl
@[simp] theorem ole_ii (i j : Int) : ole (.int i) (.int j) = .ok (.bl (decide (i ≤ j))) := rfl
@[simp] theorem ogt_ii (i j : Int) : ogt (.int i) (.int j) = .ok (.bl (decide (j < i))) := rfl
@[simp] theorem oge_ii (i j : Int) : oge (.int i) (.int j) = .ok (.bl (decide (j ≤ i))) := rfl
@[simp] theorem oneg_i (i : Int) : oneg (.int i) = .ok (.int (-i)) := rfl
@[simp] theorem oeq_ii (i j : Int) : oeq (.int i) (.int j) = .ok (.bl (i == j)) := rfl
@[simp] theorem one_ii (i j : Int) : Py.one (.int i) (.int j) = .ok (.bl (!(i == j))) := rfl
@[simp] theorem bint_i (i : Int) : bint (.int i) = .ok (.int i) := rfl
@[simp] theorem bint_b (b : Bool) : bint (.bl b) = .ok (.int (b2i b)) := rfl
@[simp] theorem truthy_b (b : Bool) : truthy (.bl b) = .ok b := rfl
@[simp] theorem truthy_i (i : Int) : truthy (.int i) = .ok (i != 0) := rfl
@[simp] theorem blen_l (xs : List D) : blen (.lst xs) = .ok (.int xs.length) := rfl
@[simp] theorem blen_t (xs : List D) : blen (.tup xs) = .ok (.int xs.length) := rfl
@[simp] theorem btuple_l (xs : List D) : btuple (.lst xs) = .ok (.tup xs) := rfl
@[simp] theorem btuple_t (xs : List D) : btuple (.tup xs) = .ok (.tup xs) := rfl
@[simp] theorem blist_l (xs : List D) : blist (.lst xs) = .ok (.lst xs) := rfl
@[simp] theorem blist_t (xs : List D) : blist (.tup xs) = .ok (.lst xs) := rfl
@[simp] theorem onb_b (b : Bool) : onb (.bl b) = .ok (.bl (!b)) := rfl
/-! ### subscripts -/
theorem ixN_nat {n k : Nat} (h : k < n) : L2.ixN n (k : Int) = some k := by
  unfold L2.ixN
  simp [h]
theorem atI_nat {α : Type} {xs : List α} {k : Nat} (h : k < xs.length) : L2.atI xs (k : Int) = some xs[k] := by
  unfold L2.atI
  rw [ixN_nat h]
  simp [h]
theorem oidx_l {xs : List D} {k : Nat} {d : D} (h : xs[k]? = some d) : oidx (.lst xs) (.int (k : Int)) = .ok d := by
  have hk : k < xs.length := by
    rcases Nat.lt_or_ge k xs.length with h1 | h1
    · exact h1
    · rw [List.getElem?_eq_none h1] at h
      cases h
  unfold oidx
  simp only [atI_nat hk, opt]
  rw [List.getElem?_eq_getElem hk] at h
  rw [Option.some.inj h]
theorem oidx_t {xs : List D} {k : Nat} {d : D} (h : xs[k]? = some d) : oidx (.tup xs) (.int (k : Int)) = .ok d := by
  have q : oidx (.tup xs) (.int (k : Int)) = oidx (.lst xs) (.int (k : Int)) := rfl
  rw [q]
  exact oidx_l h
/-! ### loops -/
theorem rng_map (n : Nat) : rngL 0 (n : Int) = (List.range n).map fun i => D.int ((i : Nat) : Int) := by
  unfold rngL
  rw [Int.sub_zero, Int.toNat_natCast]
  refine List.map_congr_left fun i _ => ?_
  rw [Int.zero_add]
theorem rng_lt {n : Nat} (h : n ≤ 1000) : n < B62 := Nat.lt_of_le_of_lt h (by decide)
theorem irng1_int {a : EM} {e : Env} {i : Int} (h : a e = .ok (.int i)) : irng1 a e = if i.natAbs < B62 then .ok (rngL 0 i) else .stuck := by
  unfold irng1
  simp only [h, bind_ok]
theorem irng1_nat {a : EM} {e : Env} {n : Nat} (h : a e = .ok (.int (n : Int))) (hn : n < B62) : irng1 a e = .ok ((List.range n).map fun i => .int ((i : Nat) : Int)) := by
  rw [← rng_map, irng1_int h]
  exact if_pos hn
theorem forL_inv {b : D → Env → Res Fl} (I : Nat → Env → Prop) : ∀ {xs : List D} {e : Env} (k : Nat), I k e → (∀ i e, (h : i < xs.length) → I (k + i) e → ∃ e', b xs[i] e = .ok (.next e') ∧ I (k + i + 1) e') → ∃ e', forL b xs e = .ok (.next e') ∧ I (k + xs.length) e'
  | [], e, k, h, _ => ⟨e, rfl, h⟩
  | x :: xs, e, k, h, hb => by
    obtain ⟨e1, h1, i1⟩ := hb 0 e (by simp) h
    have h1' : b x e = .ok (.next e1) := h1
    obtain ⟨e2, h2, i2⟩ := forL_inv (xs := xs) I (k + 1) i1 fun i e' hi hI => by
      have hI' : I (k + (i + 1)) e' := by
        rw [show k + (i + 1) = k + 1 + i by omega]
        exact hI
      obtain ⟨e3, h3, i3⟩ := hb (i + 1) e' (by simpa using hi) hI'
      refine ⟨e3, by simpa using h3, ?_⟩
      rw [show k + 1 + i + 1 = k + (i + 1) + 1 by omega]
      exact i3
    refine ⟨e2, ?_, ?_⟩
    · unfold forL
      rw [h1']
      exact h2
    · rw [show k + (x :: xs).length = k + 1 + xs.length by simp; omega]
      exact i2
/-- for each of range(n) -/
theorem forR_inv {b : D → Env → Res Fl} (I : Nat → Env → Prop) {n : Nat} {e : Env} (h0 : I 0 e) (hb : ∀ i e, i < n → I i e → ∃ e', b (.int ((i : Nat) : Int)) e = .ok (.next e') ∧ I (i + 1) e') :
    ∃ e', forL b ((List.range n).map fun i => .int ((i : Nat) : Int)) e = .ok (.next e') ∧ I n e' := by
  have q := forL_inv (b := b) (xs := (List.range n).map fun i => .int ((i : Nat) : Int)) I 0 h0 fun i e' hi hI => by
    have hi' : i < n := by simpa using hi
    have := hb i e' hi' (by simpa using hI)
    simpa using this
  simpa using q
/-! ### comprehensions -/
/-! ### sums, all -/
theorem intsOf_map : ∀ is : List Int, intsOf (is.map .int) = some is
  | [] => rfl
  | i :: is => by
    simp only [List.map_cons, intsOf, intsOf_map is]
    rfl
theorem boolsOf_map : ∀ is : List Bool, boolsOf (is.map .bl) = some is
  | [] => rfl
  | i :: is => by
    simp only [List.map_cons, boolsOf, boolsOf_map is]
    rfl
theorem bsum_ints (is : List Int) : bsum (.lst (is.map .int)) = .ok (.int is.sum) := by
  unfold bsum
  simp only [intsOf_map]
theorem ball_bools (bs : List Bool) : ball (.lst (bs.map .bl)) = .ok (.bl (bs.all id)) := by
  unfold ball
  simp only [boolsOf_map]
/-! ### bits -/
theorem oand1 (i : Int) : oand (.int i) (.int 1) = .ok (.int (i % 2)) := by rw [oand_ii, PyProof.Rows.bitAnd_m1]
theorem oshr_nat (c : Int) (p : Nat) : oshr (.int c) (.int (p : Int)) = .ok (.int (c / 2 ^ p)) := by
  rw [oshr_ii (Int.natCast_nonneg p), Int.toNat_natCast]
theorem intBits_1 : (Builtin.Int.intBits 1 : Int) = 1 := by decide
theorem intBits_0 : (Builtin.Int.intBits 0 : Int) = 0 := by decide
theorem oshl1 (p : Nat) (h : p ≤ 1000) : oshl (.int 1) (.int (p : Int)) = .ok (.int (2 ^ p)) := by
  rw [oshl_ii ⟨Int.natCast_nonneg p, by rw [intBits_1]; omega⟩, Int.toNat_natCast, Int.one_mul]
theorem oshl_bit {b : Int} (hb : b = 0 ∨ b = 1) (p : Nat) (h : p ≤ 1000) : oshl (.int b) (.int (p : Int)) = .ok (.int (b * 2 ^ p)) := by
  rw [oshl_ii ⟨Int.natCast_nonneg p, by rcases hb with e | e <;> subst e <;> (first | rw [intBits_0] | rw [intBits_1]) <;> omega⟩, Int.toNat_natCast]
end Py.U
/-! More about mirrors: comprehensions over made lists, enumerate, slices, draws. -/
namespace Py.U
open PySem
theorem lst_at (ns : List Int) {k : Nat} (h : k < ns.length) : oidx (.lst (ns.map .int)) (.int (k : Int)) = .ok (.int ns[k]) := oidx_l (by simp [h])
def Drawn : List Int → List Int → Prop
  | [], [] => True
  | d :: ds, s :: ss => (0 ≤ d ∧ d < s) ∧ Drawn ds ss
  | _, _ => False
theorem Drawn.snoc : ∀ {ds ss : List Int} {d s : Int}, Drawn ds ss → 0 ≤ d → d < s → Drawn (ds ++ [d]) (ss ++ [s])
  | [], [], _, _, _, h1, h2 => ⟨⟨h1, h2⟩, trivial⟩
  | d :: ds, s :: ss, _, _, h, h1, h2 => ⟨h.1, Drawn.snoc h.2 h1 h2⟩
  | [], _ :: _, _, _, h, _, _ => h.elim
  | _ :: _, [], _, _, h, _, _ => h.elim
theorem Drawn.length : ∀ {ds ss : List Int}, Drawn ds ss → ds.length = ss.length
  | [], [], _ => rfl
  | d :: ds, s :: ss, h => congrArg (· + 1) (Drawn.length h.2)
  | [], _ :: _, h => h.elim
  | _ :: _, [], h => h.elim
theorem le_sz {n : Nat} (h : n ≤ 1000) : n ≤ SZ := Nat.le_trans h (by decide)
theorem compL_mapI {α : Type} {f : D → Res (Option D)} {k h : α → D} : ∀ {ys : List α}, (∀ y ∈ ys, f (k y) = .ok (some (h y))) → compL f (ys.map k) = .ok (ys.map h)
  | [], _ => rfl
  | y :: ys, q => by
    rw [List.map_cons, List.map_cons]
    unfold compL
    rw [q y List.mem_cons_self, compL_mapI fun z hz => q z (List.mem_cons_of_mem _ hz)] <;> rfl
theorem lc_mapI {α : Type} {it : IM} {vs : List Nat} {g : GM} {elt : EM} {e : Env} {ys : List α} {k h : α → D} (hi : it e = .ok (ys.map k)) (hz : ys.length ≤ SZ) (hx : ∀ y ∈ ys, ∃ e1, g (k y) (wipe e vs) = some e1 ∧ elt e1 = .ok (h y)) : lcE it vs g yes elt e = .ok (.lst (ys.map h)) := by
  unfold lcE
  rw [hi]
  have q : compL (compF vs g yes elt e) (ys.map k) = .ok (ys.map h) := compL_mapI fun x hm => by
    obtain ⟨e1, h1, h2⟩ := hx x hm
    unfold compF
    rw [h1]
    simp [yes, h2]
  simp only [bind_ok, q, noexc_ok, List.length_map]
  exact chk_ok hz
theorem sum_map {α : Type} (f : α → Int) (ys : List α) : bsum (.lst (ys.map fun y => .int (f y))) = .ok (.int (ys.map f).sum) := by
  have q := bsum_ints (ys.map f)
  rw [List.map_map] at q
  exact q
theorem enumL_snoc : ∀ (xs : List D) (k : Nat) (d : D), enumL k (xs ++ [d]) = enumL k xs ++ [.tup [.int ((k + xs.length : Nat) : Int), d]]
  | [], k, d => by simp [enumL]
  | x :: xs, k, d => by
    simp only [List.cons_append, enumL, enumL_snoc xs (k + 1) d, List.length_cons]
    rw [show k + 1 + xs.length = k + (xs.length + 1) by omega]
theorem enum_rng (f : Nat → D) : ∀ w : Nat, enumL 0 ((List.range w).map f) = (List.range w).map fun p => .tup [.int ((p : Nat) : Int), f p]
  | 0 => rfl
  | w + 1 => by
    rw [List.range_succ, List.map_append, List.map_append, List.map_singleton, List.map_singleton, enumL_snoc, enum_rng f w]
    simp
theorem seq_next {a b : SM} {e e' : Env} (h : a e = .ok (.next e')) : seq a b e = b e' := by
  rw [seq_eq, h]
  rfl
theorem oslc_l (xs : List D) (lo hi : Option Int) : oslc (.lst xs) lo hi = .ok (.lst (cut xs lo hi)) := rfl
theorem slc_eq (a : EM) (lo hi : Option EM) (e : Env) : slc a lo hi e = (a e >>= fun x => slc.bnd lo e >>= fun i => slc.bnd hi e >>= fun j => oslc x i j) := rfl
theorem bnd_none (e : Env) : slc.bnd none e = .ok none := rfl
theorem bnd_some (m : EM) (e : Env) : slc.bnd (some m) e = (m e >>= fun d => match d with | .int i => .ok (some i) | _ => .stuck) := rfl
end Py.U
/-! Words of numbers, bit by bit. -/
namespace Py.U
def bt (n p : Nat) : Nat := n / 2 ^ p % 2
theorem bt01 (n p : Nat) : bt n p = 0 ∨ bt n p = 1 := by
  unfold bt
  omega
theorem bt_tb (n p : Nat) : bt n p = if n.testBit p then 1 else 0 := by
  rw [Nat.testBit_eq_decide_div_mod_eq]
  unfold bt
  by_cases h : n / 2 ^ p % 2 = 1
  · simp [h]
  · simp [h]
    omega
theorem bt_mod {n p w : Nat} (h : p < w) : bt (n % 2 ^ w) p = bt n p := by
  rw [bt_tb, bt_tb, Nat.testBit_mod_two_pow]
  simp [h]
theorem eq_of_bt {w : Nat} : ∀ {m n : Nat}, m < 2 ^ w → n < 2 ^ w → (∀ p, p < w → bt m p = bt n p) → m = n := fun {m n} hm hn h => by
  apply Nat.eq_of_testBit_eq
  intro i
  by_cases hi : i < w
  · have := h i hi
    rw [bt_tb, bt_tb] at this
    cases e1 : m.testBit i <;> cases e2 : n.testBit i <;> simp_all
  · rw [Nat.testBit_lt_two_pow (Nat.lt_of_lt_of_le hm (Nat.pow_le_pow_right (by decide) (by omega))), Nat.testBit_lt_two_pow (Nat.lt_of_lt_of_le hn (Nat.pow_le_pow_right (by decide) (by omega)))]
/-! ### sums -/
/-! ### differences -/
end Py.U
/-! Numbers of first meetings; classes of states; a search by levels. No program in sight. -/
namespace Py.U
section
variable {α β : Type} [DecidableEq α] [DecidableEq β]
def addU (s : List α) (k : α) : List α := if k ∈ s then s else s ++ [k]
def uniq (ks : List α) : List α := ks.foldl addU []
theorem mem_addU {s : List α} {k x : α} : x ∈ addU s k ↔ x ∈ s ∨ x = k := by
  unfold addU
  split
  · rename_i h
    constructor
    · exact .inl
    · rintro (q | rfl)
      · exact q
      · exact h
  · simp
theorem nodup_addU {s : List α} {k : α} (h : s.Nodup) : (addU s k).Nodup := by
  unfold addU
  split
  · exact h
  · rename_i hk
    rw [List.nodup_append]
    refine ⟨h, by simp, fun a ha b hb => ?_⟩
    rw [List.mem_singleton.mp hb]
    rintro rfl
    exact hk ha
theorem foldU : ∀ (ks s : List α), s.Nodup → (ks.foldl addU s).Nodup ∧ ∀ x, x ∈ ks.foldl addU s ↔ x ∈ s ∨ x ∈ ks
  | [], s, h => ⟨h, fun x => by simp⟩
  | k :: ks, s, h => by
    obtain ⟨h1, h2⟩ := foldU ks (addU s k) (nodup_addU h)
    refine ⟨h1, fun x => ?_⟩
    rw [List.foldl_cons, h2, mem_addU, List.mem_cons]
    constructor
    · rintro ((a | a) | a)
      · exact .inl a
      · exact .inr (.inl a)
      · exact .inr (.inr a)
    · rintro (a | a | a)
      · exact .inl (.inl a)
      · exact .inl (.inr a)
      · exact .inr a
theorem uniq_nodup (ks : List α) : (uniq ks).Nodup := (foldU ks [] List.nodup_nil).1
theorem mem_uniq {ks : List α} {x : α} : x ∈ uniq ks ↔ x ∈ ks := by
  have := (foldU ks [] List.nodup_nil).2 x
  simpa [uniq] using this
theorem uniq_snoc (ks : List α) (k : α) : uniq (ks ++ [k]) = addU (uniq ks) k := by
  unfold uniq
  rw [List.foldl_append]
  rfl
theorem idx_app {s t : List α} {k : α} (h : k ∈ s) : (s ++ t).idxOf k = s.idxOf k := by
  rw [List.idxOf_append, if_pos h]
theorem idx_addU {s : List α} {k x : α} (h : x ∈ s) : (addU s k).idxOf x = s.idxOf x := by
  unfold addU
  split
  · rfl
  · exact idx_app h
theorem idx_new {s : List α} {k : α} : (addU s k).idxOf k = s.idxOf k := by
  unfold addU
  split
  · rfl
  · rename_i h
    rw [List.idxOf_append, if_neg h, List.idxOf_eq_length h]
    simp
/-- the number of each key's first meeting -/
def numb (ks : List α) : List Nat := ks.map fun k => (uniq ks).idxOf k
theorem numb_len (ks : List α) : (numb ks).length = ks.length := by simp [numb]
theorem numb_snoc (ks : List α) (k : α) : numb (ks ++ [k]) = numb ks ++ [(uniq ks).idxOf k] := by
  unfold numb
  rw [uniq_snoc, List.map_append, List.map_singleton, idx_new]
  congr 1
  exact List.map_congr_left fun x hx => idx_addU (mem_uniq.mpr hx)
theorem numb_lt {ks : List α} {n : Nat} (h : n ∈ numb ks) : n < (uniq ks).length := by
  obtain ⟨k, hk, rfl⟩ := List.mem_map.mp h
  exact List.idxOf_lt_length_of_mem (mem_uniq.mpr hk)
theorem uniq_len (ks : List α) : (uniq ks).length ≤ ks.length := by
  have key : ∀ (ks s : List α), (ks.foldl addU s).length ≤ s.length + ks.length := by
    intro ks
    induction ks with
    | nil => simp
    | cons k ks ih =>
      intro s
      have h1 : (addU s k).length ≤ s.length + 1 := by
        unfold addU
        split <;> simp
      have := ih (addU s k)
      simp only [List.foldl_cons, List.length_cons]
      omega
  have := key ks []
  simpa [uniq] using this
/-- the greatest number -/
def mxN (c : List Nat) : Nat := c.foldl max 0
theorem foldmx : ∀ (c : List Nat) (a : Nat), a ≤ c.foldl max a ∧ (∀ x ∈ c, x ≤ c.foldl max a) ∧ (c.foldl max a = a ∨ c.foldl max a ∈ c)
  | [], a => ⟨Nat.le_refl _, by simp, .inl rfl⟩
  | x :: c, a => by
    obtain ⟨h1, h2, h3⟩ := foldmx c (max a x)
    simp only [List.foldl_cons]
    refine ⟨by omega, fun y hy => ?_, ?_⟩
    · rcases List.mem_cons.mp hy with rfl | hy
      · omega
      · exact h2 y hy
    · rcases h3 with h3 | h3
      · rw [h3]
        by_cases q : a ≤ x
        · right
          rw [Nat.max_eq_right q]
          exact List.mem_cons_self
        · left
          omega
      · exact .inr (List.mem_cons_of_mem _ h3)
theorem mx_ge {c : List Nat} {x : Nat} (h : x ∈ c) : x ≤ mxN c := (foldmx c 0).2.1 x h
theorem numb_mx {ks : List α} (h : ks ≠ []) : mxN (numb ks) + 1 = (uniq ks).length := by
  have hu : uniq ks ≠ [] := fun e => by
    cases ks with
    | nil => exact h rfl
    | cons k r =>
      have : k ∈ uniq (k :: r) := mem_uniq.mpr List.mem_cons_self
      rw [e] at this
      cases this
  have hpos : 0 < (uniq ks).length := List.length_pos_iff.mpr hu
  have h1 : mxN (numb ks) < (uniq ks).length := by
    rcases (foldmx (numb ks) 0).2.2 with e | e
    · show List.foldl max 0 (numb ks) < _
      omega
    · exact numb_lt e
  have h2 : (uniq ks).length - 1 ∈ numb ks := by
    have hl : (uniq ks).length - 1 < (uniq ks).length := by omega
    refine List.mem_map.mpr ⟨(uniq ks)[(uniq ks).length - 1], mem_uniq.mp (List.getElem_mem hl), ?_⟩
    exact (uniq_nodup ks).idxOf_getElem _ hl
  have h3 := mx_ge h2
  omega
/-- finer keys have more numbers -/
theorem uniq_le_of {ks : List α} {js : List β} (f : β → α) (h : js.map f = ks) : (uniq ks).length ≤ (uniq js).length := by
  have hs : uniq ks ⊆ (uniq js).map f := fun x hx => by
    have h1 : x ∈ js.map f := by rw [h]; exact mem_uniq.mp hx
    obtain ⟨j, hj, rfl⟩ := List.mem_map.mp h1
    exact List.mem_map.mpr ⟨j, mem_uniq.mpr hj, rfl⟩
  have := (uniq_nodup ks).length_le_of_subset hs
  simpa using this
end
/-! ### classes -/
/-- what a state's class hangs on -/
def keyS (nx : List (List Nat)) (c : List Nat) (s : Nat) : Nat × List Nat := (c.getD s 0, (nx.getD s []).map fun t => c.getD t 0)
def stepC (nx : List (List Nat)) (c : List Nat) : List Nat := numb ((List.range nx.length).map (keyS nx c))
theorem stepC_len (nx : List (List Nat)) (c : List Nat) : (stepC nx c).length = nx.length := by
  unfold stepC
  rw [numb_len]
  simp
theorem rank_numb {α : Type} [DecidableEq α] (ks : List α) : (uniq (numb ks)).length = (uniq ks).length ∧ (ks ≠ [] → mxN (numb ks) + 1 = (uniq (numb ks)).length) := by
  have e : (uniq (numb ks)).length = (uniq ks).length := by
    apply Nat.le_antisymm
    · exact uniq_le_of (js := ks) (fun k => (uniq ks).idxOf k) rfl
    · have h : ((numb ks).map fun n => (uniq ks)[n]?) = ks.map some := by
        unfold numb
        rw [List.map_map]
        refine List.map_congr_left fun k hk => ?_
        simp only [Function.comp]
        have hl := List.idxOf_lt_length_of_mem (mem_uniq.mpr hk)
        rw [List.getElem?_eq_getElem hl, List.getElem_idxOf hl]
      have h1 := uniq_le_of (js := numb ks) (fun n => (uniq ks)[n]?) h
      have h2 : (uniq ks).length ≤ (uniq (ks.map some)).length := by
        have := uniq_le_of (ks := ks.map fun k => some k) (js := ks) some rfl
        have hs : (uniq ks).map some ⊆ uniq (ks.map some) := fun x hx => by
          obtain ⟨y, hy, rfl⟩ := List.mem_map.mp hx
          exact mem_uniq.mpr (List.mem_map.mpr ⟨y, mem_uniq.mp hy, rfl⟩)
        have hn : ((uniq ks).map some).Nodup := by
          exact (uniq_nodup ks).map some fun a b hab e => hab (Option.some.inj e)
        have := hn.length_le_of_subset hs
        simpa using this
      omega
  exact ⟨e, fun h => by rw [e]; exact numb_mx h⟩
/-- numbers of first meetings of something -/
def Met (n : Nat) (c : List Nat) : Prop := c.length = n ∧ (0 < n → mxN c + 1 = (uniq c).length)
theorem met_numb {α : Type} [DecidableEq α] (ks : List α) : Met ks.length (numb ks) := ⟨numb_len ks, fun h => (rank_numb ks).2 (List.length_pos_iff.mp h)⟩
theorem met_step {nx : List (List Nat)} {c : List Nat} : Met nx.length (stepC nx c) := by
  have := met_numb ((List.range nx.length).map (keyS nx c))
  rw [List.length_map, List.length_range] at this
  exact this
theorem range_getD {c : List Nat} {n : Nat} (h : c.length = n) : (List.range n).map (fun s => c.getD s 0) = c := by
  apply List.ext_getElem
  · simp [h]
  · intro i h1 h2
    simp [h2]
theorem step_mx {nx : List (List Nat)} {c : List Nat} (h : Met nx.length c) (hn : 0 < nx.length) : mxN c ≤ mxN (stepC nx c) ∧ mxN (stepC nx c) < nx.length := by
  have h1 := h.2 hn
  have h2 : mxN (stepC nx c) + 1 = _ := numb_mx (ks := (List.range nx.length).map (keyS nx c)) (by
    intro e
    have := congrArg List.length e
    simp at this
    rw [this] at hn
    simp at hn)
  have h3 : (uniq c).length ≤ (uniq ((List.range nx.length).map (keyS nx c))).length := uniq_le_of Prod.fst (by
    rw [List.map_map]
    exact range_getD h.1)
  have h4 := uniq_len ((List.range nx.length).map (keyS nx c))
  simp at h4
  omega
/-- the classes, found in at most so many turns -/
def clsL (nx : List (List Nat)) (c : List Nat) : Nat → List Nat
  | 0 => c
  | k + 1 => if mxN (stepC nx c) = mxN c then c else clsL nx (stepC nx c) k
theorem cls_met {nx : List (List Nat)} : ∀ (k : Nat) (c : List Nat), Met nx.length c → Met nx.length (clsL nx c k)
  | 0, c, h => h
  | k + 1, c, h => by
    rw [clsL]
    split
    · exact h
    · exact cls_met k _ met_step
/-- the classes are kept by a further turn -/
theorem cls_end {nx : List (List Nat)} (hn : 0 < nx.length) : ∀ (k : Nat) (c : List Nat), Met nx.length c → nx.length ≤ mxN c + k + 1 → mxN (stepC nx (clsL nx c k)) = mxN (clsL nx c k)
  | 0, c, h, hk => by
    obtain ⟨h1, h2⟩ := step_mx h hn
    rw [clsL]
    omega
  | k + 1, c, h, hk => by
    rw [clsL]
    obtain ⟨h1, h2⟩ := step_mx h hn
    split
    · assumption
    · exact cls_end hn k (stepC nx c) met_step (by omega)
/-! ### a search by levels -/
section
variable (C : Nat → Nat) (nx : List (List Nat))
def stepT (f : List Nat) (t : Nat) : List Nat := if C t ∈ f.map C then f else f ++ [t]
def stepS (f : List Nat) (s : Nat) : List Nat := (nx.getD s []).foldl (stepT C) f
def bfsL : Nat → List Nat → Nat → List Nat
  | 0, f, _ => f
  | k + 1, f, a => if a < f.length then bfsL k (stepS C nx f (f.getD a 0)) (a + 1) else f
variable {C nx}
theorem stepT_pre (f : List Nat) (t : Nat) : ∃ r, stepT C f t = f ++ r := by
  unfold stepT
  split
  · exact ⟨[], by simp⟩
  · exact ⟨[t], rfl⟩
theorem foldT_pre : ∀ (ts f : List Nat), ∃ r, ts.foldl (stepT C) f = f ++ r
  | [], f => ⟨[], by simp⟩
  | t :: ts, f => by
    obtain ⟨r, hr⟩ := stepT_pre (C := C) f t
    obtain ⟨r2, hr2⟩ := foldT_pre ts (f ++ r)
    refine ⟨r ++ r2, ?_⟩
    rw [List.foldl_cons, hr, hr2, List.append_assoc]
theorem stepS_pre (f : List Nat) (s : Nat) : ∃ r, stepS C nx f s = f ++ r := foldT_pre _ f
theorem bfs_pre : ∀ (k : Nat) (f : List Nat) (a : Nat), ∃ r, bfsL C nx k f a = f ++ r
  | 0, f, a => ⟨[], by simp [bfsL]⟩
  | k + 1, f, a => by
    rw [bfsL]
    split
    · obtain ⟨r, hr⟩ := stepS_pre (C := C) (nx := nx) f (f.getD a 0)
      obtain ⟨r2, hr2⟩ := bfs_pre k (stepS C nx f (f.getD a 0)) (a + 1)
      exact ⟨r ++ r2, by rw [hr2, hr, List.append_assoc]⟩
    · exact ⟨[], by simp⟩
/-- found states: of unlike classes, all below n -/
structure Fnd (C : Nat → Nat) (n : Nat) (f : List Nat) : Prop where
  nd : (f.map C).Nodup
  lt : ∀ s ∈ f, s < n
theorem Fnd.snoc {n : Nat} {f : List Nat} (h : Fnd C n f) {t : Nat} (ht : t < n) : Fnd C n (stepT C f t) := by
  unfold stepT
  split
  · exact h
  · rename_i hn
    refine ⟨?_, fun s hs => ?_⟩
    · rw [List.map_append, List.nodup_append]
      refine ⟨h.nd, by simp, fun a ha b hb => ?_⟩
      rw [List.map_singleton] at hb
      rw [List.mem_singleton.mp hb]
      rintro rfl
      exact hn ha
    · rcases List.mem_append.mp hs with q | q
      · exact h.lt s q
      · rw [List.mem_singleton.mp q]
        exact ht
theorem Fnd.fold {n : Nat} : ∀ {ts f : List Nat}, Fnd C n f → (∀ t ∈ ts, t < n) → Fnd C n (ts.foldl (stepT C) f) ∧ ∀ t ∈ ts, C t ∈ (ts.foldl (stepT C) f).map C
  | [], f, h, _ => ⟨h, by simp⟩
  | t :: ts, f, h, ht => by
    obtain ⟨h1, h2⟩ := Fnd.fold (ts := ts) (h.snoc (ht t List.mem_cons_self)) fun x hx => ht x (List.mem_cons_of_mem _ hx)
    refine ⟨h1, fun x hx => ?_⟩
    rcases List.mem_cons.mp hx with rfl | hx
    · obtain ⟨r, hr⟩ := foldT_pre (C := C) ts (stepT C f x)
      rw [List.foldl_cons, hr, List.map_append]
      refine List.mem_append_left _ ?_
      unfold stepT
      split
      · assumption
      · simp
    · exact h2 x hx
theorem Fnd.step {n : Nat} {f : List Nat} (h : Fnd C n f) {s : Nat} (hs : ∀ t ∈ nx.getD s [], t < n) : Fnd C n (stepS C nx f s) ∧ ∀ t ∈ nx.getD s [], C t ∈ (stepS C nx f s).map C := Fnd.fold h hs
theorem Fnd.len {n m : Nat} {f : List Nat} (h : Fnd C n f) (hC : ∀ s, s < n → C s < m) : f.length ≤ m := by
  have hs : f.map C ⊆ List.range m := fun x hx => by
    obtain ⟨s, hs, rfl⟩ := List.mem_map.mp hx
    exact List.mem_range.mpr (hC s (h.lt s hs))
  have := h.nd.length_le_of_subset hs
  simpa using this
/-- all goals of the states before a have their classes found -/
def Cld (C : Nat → Nat) (nx : List (List Nat)) (f : List Nat) (a : Nat) : Prop := ∀ i, i < a → ∀ t ∈ nx.getD (f.getD i 0) [], C t ∈ f.map C
theorem getD_pre {f r : List Nat} {i : Nat} (h : i < f.length) : (f ++ r).getD i 0 = f.getD i 0 := by
  rw [List.getD_eq_getElem?_getD, List.getD_eq_getElem?_getD, List.getElem?_append_left h]
theorem bfs_ok {n : Nat} (hN : ∀ s, s < n → ∀ t ∈ nx.getD s [], t < n) : ∀ (k : Nat) (f : List Nat) (a : Nat), Fnd C n f → Cld C nx f a → a ≤ f.length → Fnd C n (bfsL C nx k f a) ∧ ((bfsL C nx k f a).length ≤ a + k → Cld C nx (bfsL C nx k f a) (bfsL C nx k f a).length)
  | 0, f, a, h, hc, ha => ⟨h, fun hl => by
    have e : f.length = a := by simp only [bfsL] at hl; omega
    simp only [bfsL]
    rw [e]
    exact hc⟩
  | k + 1, f, a, h, hc, ha => by
    rw [bfsL]
    split
    · rename_i hlt
      have hs : f.getD a 0 < n := h.lt _ (by
        rw [List.getD_eq_getElem?_getD, List.getElem?_eq_getElem hlt]
        exact List.getElem_mem hlt)
      obtain ⟨h1, h2⟩ := h.step (nx := nx) (hN _ hs)
      obtain ⟨r, hr⟩ := stepS_pre (C := C) (nx := nx) f (f.getD a 0)
      have hc' : Cld C nx (stepS C nx f (f.getD a 0)) (a + 1) := fun i hi t ht => by
        by_cases hia : i = a
        · subst hia
          have e : (stepS C nx f (f.getD i 0)).getD i 0 = f.getD i 0 := by rw [hr, getD_pre hlt]
          rw [e] at ht
          exact h2 t ht
        · have hi' : i < a := by omega
          have e : (stepS C nx f (f.getD a 0)).getD i 0 = f.getD i 0 := by rw [hr, getD_pre (by omega)]
          rw [e] at ht
          have := hc i hi' t ht
          rw [hr, List.map_append]
          exact List.mem_append_left _ this
      obtain ⟨g1, g2⟩ := bfs_ok hN k _ (a + 1) h1 hc' (by rw [hr, List.length_append]; omega)
      exact ⟨g1, fun hl => g2 (by omega)⟩
    · rename_i hlt
      have e : f.length = a := by omega
      exact ⟨h, fun _ => by rw [e]; exact hc⟩
theorem bfs_fuel {m : Nat} {n : Nat} (hN : ∀ s, s < n → ∀ t ∈ nx.getD s [], t < n) (hC : ∀ s, s < n → C s < m) : ∀ (k : Nat) (f : List Nat) (a : Nat), Fnd C n f → m ≤ a + k → bfsL C nx k f a = bfsL C nx (k + 1) f a
  | 0, f, a, h, hk => by
    have := h.len hC
    rw [bfsL, bfsL, if_neg (by omega)]
  | k + 1, f, a, h, hk => by
    rw [bfsL, bfsL]
    split
    · rename_i hlt
      have hs : f.getD a 0 < n := h.lt _ (by
        rw [List.getD_eq_getElem?_getD, List.getElem?_eq_getElem hlt]
        exact List.getElem_mem hlt)
      exact bfs_fuel hN hC k _ (a + 1) (h.step (nx := nx) (hN _ hs)).1 (by omega)
    · rfl
end
end Py.U
/-! Dicts from keys to numbers of first meetings, as data. -/
namespace Py.U
def nD (n : Nat) : D := .int (n : Int)
/-! ### equations -/
theorem onotin_dic {t : Bool} {x : D} {kvs : List (D × D)} (h : keyOk t x = true) : onotin x (.dic t kvs) = .ok (.bl (!(find x kvs).isSome)) := by
  show (if keyOk t x = true then Res.ok (D.bl (!(find x kvs).isSome)) else Res.stuck) = _
  rw [if_pos h]
theorem oidx_dic {t : Bool} {x d : D} {kvs : List (D × D)} (h : keyOk t x = true) (hf : find x kvs = some d) : oidx (.dic t kvs) x = .ok d := by
  have e : oidx (.dic t kvs) x = if keyOk t x then opt (find x kvs) else .stuck := by
    cases x <;> rfl
  rw [e, if_pos h, hf]
  rfl
theorem setL_dic {i : Nat} {j m : EM} {e : Env} {t : Bool} {kvs : List (D × D)} {k d : D} (h1 : var i e = .ok (.dic t kvs)) (h2 : m e = .ok d) (h3 : j e = .ok k) (h4 : keyOk t k = true) (h5 : kvs.length < SZ) : setL i j m e = .ok (.next (e.set i (some (.dic t (putD k d kvs))))) := by
  unfold setL
  rw [h1, bind_ok]
  dsimp only
  rw [h2, bind_ok, h3, bind_ok, h4, decide_eq_true h5]
  rfl
theorem blen_dic (t : Bool) (kvs : List (D × D)) : blen (.dic t kvs) = .ok (nD kvs.length) := rfl
@[simp] theorem dic0_eq (t : Bool) (e : Env) : dic0 t e = .ok (.dic t []) := rfl
theorem dic1_eq {t : Bool} {a b : EM} {e : Env} {k v : D} (h1 : a e = .ok k) (h2 : b e = .ok v) (h3 : keyOk t k = true) : dic1 t a b e = .ok (.dic t [(k, v)]) := by
  unfold dic1
  rw [h1, bind_ok, h2, bind_ok, if_pos h3]
/-! ### keys -/
structure KeyE {α : Type} [DecidableEq α] (t : Bool) (kd : α → D) : Prop where
  eq : ∀ a b, eqv (kd a) (kd b) = decide (a = b)
  ok : ∀ a, keyOk t (kd a) = true
section
variable {α : Type} [DecidableEq α] {t : Bool} {kd : α → D}
def tabF (kd : α → D) (k0 : Nat) : List α → List (D × D)
  | [] => []
  | a :: r => (kd a, nD k0) :: tabF kd (k0 + 1) r
theorem tabF_len (kd : α → D) : ∀ (s : List α) (k0 : Nat), (tabF kd k0 s).length = s.length
  | [], _ => rfl
  | a :: r, k0 => by simp [tabF, tabF_len kd r]
theorem find_tabF (h : KeyE t kd) (k : α) : ∀ (s : List α) (k0 : Nat), find (kd k) (tabF kd k0 s) = if k ∈ s then some (nD (k0 + s.idxOf k)) else none
  | [], k0 => by simp [tabF, find]
  | a :: r, k0 => by
    simp only [tabF, find, h.eq]
    by_cases e : a = k
    · subst e
      simp
    · have e2 : ¬ k = a := fun z => e z.symm
      rw [decide_eq_false e, if_neg (by decide), find_tabF h k r (k0 + 1)]
      have e3 : (a == k) = false := by simpa using e
      simp only [List.mem_cons, e2, false_or, List.idxOf_cons, e3, cond_false]
      by_cases q : k ∈ r
      · rw [if_pos q, if_pos q]
        congr 2
        omega
      · rw [if_neg q, if_neg q]
theorem put_tabF (h : KeyE t kd) (k : α) : ∀ (s : List α) (k0 : Nat), k ∉ s → putD (kd k) (nD (k0 + s.length)) (tabF kd k0 s) = tabF kd k0 (s ++ [k])
  | [], k0, _ => by simp [tabF, putD]
  | a :: r, k0, hk => by
    simp only [List.mem_cons, not_or] at hk
    simp only [List.cons_append, tabF, putD, h.eq]
    rw [decide_eq_false fun z => hk.1 z.symm, if_neg (by decide)]
    have := put_tabF h k r (k0 + 1) hk.2
    rw [show k0 + 1 + r.length = k0 + (a :: r).length by simp; omega] at this
    rw [this]
end
/-! ### numbers, lines -/
theorem nD_eq (a b : Nat) : eqv (nD a) (nD b) = decide (a = b) := by
  show eqv (.int (a : Int)) (.int (b : Int)) = _
  simp only [eqv]
  by_cases q : a = b
  · subst q
    simp
  · rw [decide_eq_false q]
    simp
    omega
theorem lineE_eq : ∀ (a b : List Nat), eqv.eqvL (a.map nD) (b.map nD) = decide (a = b)
  | [], [] => by simp [eqv.eqvL]
  | [], b :: bs => by simp [eqv.eqvL]
  | a :: as, [] => by simp [eqv.eqvL]
  | a :: as, b :: bs => by
    simp only [List.map_cons, eqv.eqvL, nD_eq, lineE_eq as bs]
    by_cases q : a = b <;> by_cases r : as = bs <;> simp [q, r]
def rD (r : List Nat) : D := .tup (r.map nD)
theorem rD_eq (a b : List Nat) : eqv (rD a) (rD b) = decide (a = b) := by
  unfold rD
  simp only [eqv]
  exact lineE_eq a b
theorem hk_nD (n m : Nat) : hk n (nD m) = true := by
  unfold nD
  cases n <;> rfl
theorem hk_rD (n : Nat) (r : List Nat) : hk (n + 1) (rD r) = true := by
  unfold rD
  simp only [hk, List.all_map, List.all_eq_true]
  exact fun x _ => hk_nD n x
theorem key_rD : KeyE true rD := ⟨rD_eq, fun a => hk_rD 7 a⟩
theorem key_nD : KeyE false nD := ⟨nD_eq, fun a => rfl⟩
def kpD (p : Nat × List Nat) : D := .tup [nD p.1, rD p.2]
theorem kpD_eq (a b : Nat × List Nat) : eqv (kpD a) (kpD b) = decide (a = b) := by
  unfold kpD
  simp only [eqv, eqv.eqvL, nD_eq, rD_eq]
  obtain ⟨a1, a2⟩ := a
  obtain ⟨b1, b2⟩ := b
  by_cases q : a1 = b1 <;> by_cases r : a2 = b2 <;> simp [q, r]
theorem key_kp : KeyE true kpD := ⟨kpD_eq, fun a => by
  show hk 8 (.tup [nD a.1, rD a.2]) = true
  simp only [hk, List.all_cons, List.all_nil, hk_nD, hk_rD 6, Bool.and_self]⟩
/-! ### each key by the number of its first meeting -/
def nmB : SM := (seq (Py.ite (tst (bin onotin (var 3) (var 1))) (setL 1 (var 3) (un blen (var 1))) skip)
  (app 2 (bin oidx (var 1) (var 3))))
def numB : SM := (seq (asg (gnm 1) (dic0 true))
  (seq (asg (gnm 2) (lstE argN))
  (seq (for_ (iseq (var 0)) (gnm 3) nmB)
  (ret (var 2)))))
section
variable {α : Type} [DecidableEq α] {kd : α → D}
theorem nm_step (h : KeyE true kd) {s : List α} {out : List Nat} {k : α} (hs : s.length < SZ) (ho : out.length < SZ) (K : D) (o : Option D) :
    forB (gnm 3) nmB (kd k) [some K, some (.dic true (tabF kd 0 s)), some (.lst (out.map nD)), o] = .ok (.next [some K, some (.dic true (tabF kd 0 (addU s k))), some (.lst ((out ++ [s.idxOf k]).map nD)), some (kd k)]) := by
  have hk := h.ok k
  have f1 := find_tabF h k s 0
  have hl : (out.map nD).length < SZ := by rw [List.length_map]; exact ho
  rw [forB_eq, gnm_eq, lift_some, bind_ok]
  unfold nmB
  show seq _ _ [some K, some (.dic true (tabF kd 0 s)), some (.lst (out.map nD)), some (kd k)] = _
  by_cases q : k ∈ s
  · rw [if_pos q] at f1
    have n1 : onotin (kd k) (.dic true (tabF kd 0 s)) = .ok (.bl false) := by rw [onotin_dic hk, f1]; rfl
    have g1 := oidx_dic (t := true) hk f1
    have e : addU s k = s := if_pos q
    rw [e]
    rw [Nat.zero_add] at g1
    rw [List.map_append, List.map_singleton]
    generalize tabF kd 0 s = T at *
    generalize kd k = X at *
    generalize out.map nD = L at *
    generalize nD (s.idxOf k) = N at *
    simp [var, n1, g1, hl]
  · rw [if_neg q] at f1
    have n1 : onotin (kd k) (.dic true (tabF kd 0 s)) = .ok (.bl true) := by rw [onotin_dic hk, f1]; rfl
    have p1 := put_tabF h k s 0 q
    rw [Nat.zero_add] at p1
    have e : addU s k = s ++ [k] := if_neg q
    have f2 := find_tabF h k (s ++ [k]) 0
    rw [if_pos (by simp), Nat.zero_add] at f2
    have e3 : (s ++ [k]).idxOf k = s.idxOf k := by
      have := idx_new (s := s) (k := k)
      rw [e] at this
      exact this
    rw [e3] at f2
    have g1 := oidx_dic (t := true) hk f2
    have b1 : blen (.dic true (tabF kd 0 s)) = .ok (nD s.length) := by rw [blen_dic, tabF_len]
    have hz : (tabF kd 0 s).length < SZ := by rw [tabF_len]; exact hs
    have s1 : setL 1 (var 3) (un blen (var 1)) [some K, some (.dic true (tabF kd 0 s)), some (.lst (out.map nD)), some (kd k)] = .ok (.next [some K, some (.dic true (tabF kd 0 (s ++ [k]))), some (.lst (out.map nD)), some (kd k)]) := by
      rw [setL_dic (t := true) (kvs := tabF kd 0 s) (d := nD s.length) (k := kd k) rfl (by simp [var, b1]) rfl hk hz, p1]
      rfl
    rw [e, List.map_append, List.map_singleton]
    generalize tabF kd 0 (s ++ [k]) = T2 at *
    generalize tabF kd 0 s = T at *
    generalize kd k = X at *
    generalize out.map nD = L at *
    generalize nD (s.idxOf k) = N at *
    simp [var, n1, s1, g1, hl]
theorem num_loop (h : KeyE true kd) (K : D) : ∀ (ks done : List α) (o : Option D), (done ++ ks).length < SZ →
    ∃ o', forL (forB (gnm 3) nmB) (ks.map kd) [some K, some (.dic true (tabF kd 0 (uniq done))), some (.lst ((numb done).map nD)), o] = .ok (.next [some K, some (.dic true (tabF kd 0 (uniq (done ++ ks)))), some (.lst ((numb (done ++ ks)).map nD)), o'])
  | [], done, o, _ => ⟨o, by rw [List.append_nil]; rfl⟩
  | k :: ks, done, o, hz => by
    have hl : done.length < SZ := by rw [List.length_append] at hz; omega
    have q := nm_step h (s := uniq done) (out := numb done) (k := k) (Nat.lt_of_le_of_lt (uniq_len done) hl) (by rw [numb_len]; exact hl) K o
    rw [← uniq_snoc, ← numb_snoc] at q
    obtain ⟨o', q2⟩ := num_loop h K ks (done ++ [k]) (some (kd k)) (by rw [List.append_assoc]; exact hz)
    refine ⟨o', ?_⟩
    rw [List.map_cons, forL, q]
    rw [List.append_assoc] at q2
    exact q2
theorem num_run (h : KeyE true kd) {ks : List α} (hz : ks.length < SZ) : numB [some (.lst (ks.map kd)), none, none, none] = .ok (.ret (.lst ((numb ks).map nD))) := by
  obtain ⟨o', q⟩ := num_loop h (.lst (ks.map kd)) ks [] none (by simpa using hz)
  rw [List.nil_append] at q
  have q' : forL (forB (gnm 3) nmB) (ks.map kd) [some (.lst (ks.map kd)), some (.dic true []), some (.lst []), none] = _ := q
  unfold numB
  simp [var, q']
end
end Py.U
/-! Classes of states and the least machine, as data. -/
namespace Py.U
theorem wh_next {t : TM} {b : SM} {n : Nat} {e e' : Env} (h : t e = .ok true) (hb : b e = .ok (.next e')) : whileL t b (n + 1) e = whileL t b n e' := by
  show (t e >>= _) = _
  rw [h, bind_ok, if_pos rfl, hb]
theorem wh_ret {t : TM} {b : SM} {n : Nat} {e : Env} {d : D} (h : t e = .ok true) (hb : b e = .ok (.ret d)) : whileL t b (n + 1) e = .ok (.ret d) := by
  show (t e >>= _) = _
  rw [h, bind_ok, if_pos rfl, hb]
theorem wh_stop {t : TM} {b : SM} {n : Nat} {e : Env} (h : t e = .ok false) : whileL t b (n + 1) e = .ok (.next e) := by
  show (t e >>= _) = _
  rw [h, bind_ok, if_neg (by decide)]
theorem chk_p {c : TM} {r b : SM} {e : Env} (h : c e = .ok false) : seq (Py.ite c b skip) r e = r e := by
  rw [seq_eq, ite_eq, h]
  rfl
theorem asg_p {i : Nat} {m : EM} {r : SM} {e : Env} {d : D} (h : m e = .ok d) : seq (asg (gnm i) m) r e = r (e.set i (some d)) := by
  rw [seq_eq, asg_eq, h]
  rfl
theorem for_p {it : IM} {g : GM} {b r : SM} {e e' : Env} {xs : List D} (h : it e = .ok xs) (h2 : forL (forB g b) xs e = .ok (.next e')) : seq (for_ it g b) r e = r e' := by
  rw [seq_eq, for_eq, h, bind_ok, h2]
  rfl
/-! ### tables -/
def at1 (bs : List Nat) (a : Nat) : Nat := bs.getD a 0
def rw1 (t : List (List Nat)) (i : Nat) : List Nat := t.getD i []
/-- a table of S lines, each of L numbers below B -/
structure Tbl (S L B : Nat) (t : List (List Nat)) : Prop where
  len : t.length = S
  row : ∀ r ∈ t, r.length = L ∧ ∀ x ∈ r, x < B
theorem Tbl.at {S L B : Nat} {t : List (List Nat)} (h : Tbl S L B t) {i : Nat} (hi : i < S) : t[i]? = some (rw1 t i) ∧ (rw1 t i).length = L ∧ ∀ x ∈ rw1 t i, x < B := by
  have hl : i < t.length := by rw [h.len]; exact hi
  obtain ⟨h1, h2⟩ := h.row t[i] (List.getElem_mem hl)
  have e : rw1 t i = t[i] := by
    unfold rw1
    rw [List.getD_eq_getElem?_getD, List.getElem?_eq_getElem hl]
    rfl
  rw [e]
  exact ⟨List.getElem?_eq_getElem hl, h1, h2⟩
def macD (n : Nat) (nx os : List (List Nat)) : D := .ins "Machine" [("inputs", nD n), ("nexts", .tup (nx.map rD)), ("outs", .tup (os.map rD))]
theorem mac_nx (n : Nat) (nx os : List (List Nat)) : oattr ["Machine"] "nexts" (macD n nx os) = .ok (.tup (nx.map rD)) := rfl
theorem mac_os (n : Nat) (nx os : List (List Nat)) : oattr ["Machine"] "outs" (macD n nx os) = .ok (.tup (os.map rD)) := rfl
theorem idx_nL {c : List Nat} {i : Nat} (h : i < c.length) : oidx (.lst (c.map nD)) (nD i) = .ok (nD (at1 c i)) := by
  refine oidx_l ?_
  simp [at1, h]
theorem idx_nT {c : List Nat} {i : Nat} (h : i < c.length) : oidx (rD c) (nD i) = .ok (nD (at1 c i)) := by
  refine oidx_t ?_
  simp [at1, h]
theorem idx_tL {S L B : Nat} {t : List (List Nat)} (h : Tbl S L B t) {i : Nat} (hi : i < S) : oidx (.lst (t.map rD)) (nD i) = .ok (rD (rw1 t i)) := by
  refine oidx_l ?_
  rw [List.getElem?_map, (h.at hi).1]
  rfl
theorem idx_tT {S L B : Nat} {t : List (List Nat)} (h : Tbl S L B t) {i : Nat} (hi : i < S) : oidx (.tup (t.map rD)) (nD i) = .ok (rD (rw1 t i)) := by
  refine oidx_t ?_
  rw [List.getElem?_map, (h.at hi).1]
  rfl
theorem lenN {α : Type} (l : List α) (f : α → D) : blen (.lst (l.map f)) = .ok (nD l.length) := by
  rw [blen_l, List.length_map]
  rfl
theorem lenT {α : Type} (l : List α) (f : α → D) : blen (.tup (l.map f)) = .ok (nD l.length) := by
  rw [blen_t, List.length_map]
  rfl
theorem szN {α : Type} {l : List α} {f : α → D} (h : l.length ≤ 1000) : (l.map f).length < SZ := by
  rw [List.length_map]
  exact Nat.lt_of_le_of_lt h (by decide)
/-! ### the greatest number -/
theorem foldI : ∀ (r : List Nat) (a : Nat), (r.map fun (n : Nat) => (n : Int)).foldl (fun a b => if b > a then b else a) (a : Int) = ((r.foldl max a : Nat) : Int)
  | [], a => rfl
  | x :: r, a => by
    rw [List.map_cons, List.foldl_cons, List.foldl_cons, ← foldI r (max a x)]
    congr 1
    by_cases h : (x : Int) > (a : Int)
    · rw [if_pos h, Nat.max_eq_right (by omega)]
    · rw [if_neg h, Nat.max_eq_left (by omega)]
theorem bmax_nD {c : List Nat} (h : 0 < c.length) : bmaxL (.lst (c.map nD)) = .ok (nD (mxN c)) := by
  cases c with
  | nil => simp at h
  | cons x r =>
    have e : (x :: r).map nD = ((x :: r).map fun (n : Nat) => (n : Int)).map D.int := by
      rw [List.map_map]
      rfl
    have e2 := intsOf_map ((x :: r).map fun (n : Nat) => (n : Int))
    rw [← e] at e2
    show (match intsOf ((x :: r).map nD) with | some (i :: is) => Res.ok (D.int (is.foldl (fun a b => if b > a then b else a) i)) | _ => .stuck) = _
    rw [e2]
    show Res.ok (D.int ((r.map fun (n : Nat) => (n : Int)).foldl (fun a b => if b > a then b else a) (x : Int))) = _
    rw [foldI]
    have e3 : mxN (x :: r) = r.foldl max x := by
      unfold mxN
      rw [List.foldl_cons, Nat.zero_max]
    rw [e3]
    rfl
def numF : List D → Res D := fn 1 4 numB
theorem numF_run {α : Type} [DecidableEq α] {kd : α → D} (h : KeyE true kd) {ks : List α} (hz : ks.length < SZ) : numF [.lst (ks.map kd)] = .ok (.lst ((numb ks).map nD)) := by
  have q := num_run h hz
  unfold numF
  rw [fn1]
  show done (numB [some (.lst (ks.map kd)), none, none, none]) = _
  rw [q]
  rfl
theorem nat_eqN (a b : Nat) : oeq (nD a) (nD b) = .ok (.bl (decide (a = b))) := by
  show oeq (.int (a : Int)) (.int (b : Int)) = _
  rw [oeq_ii]
  by_cases h : a = b
  · subst h; simp
  · have : ¬ ((a : Int) = (b : Int)) := by omega
    simp [h, this]
/-! ### classes -/
section
variable {S L : Nat} {nx : List (List Nat)}
theorem keyS_D (c : List Nat) (s : Nat) : kpD (keyS nx c s) = .tup [nD (at1 c s), rD ((rw1 nx s).map (at1 c))] := rfl
/-- the classes of a line's goals -/
theorem line_lc {it : IM} {e : Env} {i j : Nat} {c r : List Nat} (hi : it e = .ok (r.map nD)) (hz : r.length ≤ 1000) (h1 : e[i]? = some (some (.lst (c.map nD)))) (hij : i ≠ j) (hj : j < e.length) (hr : ∀ t ∈ r, t < c.length) :
    lcE it [j] (gnm j) yes (bin oidx (var i) (var j)) e = .ok (.lst ((r.map (at1 c)).map nD)) := by
  rw [List.map_map]
  refine lc_mapI (k := nD) hi (le_sz hz) fun y hy => ⟨_, rfl, ?_⟩
  have q := idx_nL (hr y hy)
  have v1 : var i (((wipe e [j])).set j (some (nD y))) = .ok (.lst (c.map nD)) := by
    refine var_eq ?_
    simp only [wipe]
    rw [List.getElem?_set_ne (Ne.symm hij), List.getElem?_set_ne (Ne.symm hij), h1]
  have v2 : var j (((wipe e [j])).set j (some (nD y))) = .ok (nD y) := by
    refine var_eq ?_
    simp only [wipe]
    rw [List.getElem?_set_self (by simpa using hj)]
  rw [bin_eq, v1, bind_ok, v2, bind_ok, q]
  rfl
def kyB : SM := app 2 (tupE (argC (bin oidx (var 1) (var 3)) (argC (un btuple (lcE (iseq (var 4)) [6] (gnm 6) yes (bin oidx (var 1) (var 6)))) argN)))
theorem ky_loop (h : Tbl S L S nx) (hz : S ≤ 1000) (hL : L ≤ 1000) {M : D} {c : List Nat} (hc : c.length = S) (o3 o4 o5 : Option D) :
    ∃ o3' o4', forL (forB (gtup [(gnm 3), (gnm 4)]) kyB) (enumL 0 (nx.map rD)) [some M, some (.lst (c.map nD)), some (.lst []), o3, o4, o5, none] = .ok (.next [some M, some (.lst (c.map nD)), some (.lst (((List.range S).map (keyS nx c)).map kpD)), o3', o4', o5, none]) := by
  have en : ∀ (ds : List D) (k : Nat), (enumL k ds).length = ds.length := by
    intro ds
    induction ds with
    | nil => intro k; rfl
    | cons d ds ih => intro k; simp [enumL, ih]
  have ea : ∀ (ds : List D) (k i : Nat), (enumL k ds)[i]? = (ds[i]?).map fun d => D.tup [.int ((k + i : Nat) : Int), d] := by
    intro ds
    induction ds with
    | nil => intro k i; rfl
    | cons d ds ih =>
      intro k i
      cases i with
      | zero => rfl
      | succ i =>
        show (enumL (k + 1) ds)[i]? = _
        rw [ih]
        congr 1
        funext d
        congr 3
        congr 1
        omega
  obtain ⟨e', q, o3', o4', rfl⟩ := forL_inv (b := forB (gtup [(gnm 3), (gnm 4)]) kyB) (xs := enumL 0 (nx.map rD)) (e := [some M, some (.lst (c.map nD)), some (.lst []), o3, o4, o5, none])
    (fun k E => ∃ o3' o4', E = [some M, some (.lst (c.map nD)), some (.lst (((List.range k).map (keyS nx c)).map kpD)), o3', o4', o5, none]) 0 ⟨o3, o4, rfl⟩ (by
      rintro k E hk ⟨o3', o4', rfl⟩
      have hk2 : k < S := by
        rw [en, List.length_map, h.len] at hk
        exact hk
      have e1 : (enumL 0 (nx.map rD))[k] = .tup [nD k, rD (rw1 nx k)] := by
        have := ea (nx.map rD) 0 k
        rw [List.getElem?_eq_getElem hk, List.getElem?_map, (h.at hk2).1, Nat.zero_add] at this
        exact Option.some.inj this
      have e2 := idx_nL (c := c) (i := k) (by omega)
      have hrl := (h.at hk2).2
      have e3 := line_lc (it := iseq (var 4)) (i := 1) (j := 6) (c := c) (r := rw1 nx k) (e := [some M, some (.lst (c.map nD)), some (.lst (((List.range k).map (keyS nx c)).map kpD)), some (nD k), some (rD (rw1 nx k)), o5, none]) rfl (by omega) rfl (by decide) (by simp) (fun t ht => by rw [hc]; exact hrl.2 t ht)
      have z : (((List.range k).map (keyS nx c)).map kpD).length < SZ := szN (by simp; omega)
      refine ⟨[some M, some (.lst (c.map nD)), some (.lst (((List.range (k + 1)).map (keyS nx c)).map kpD)), some (nD k), some (rD (rw1 nx k)), o5, none], ?_, _, _, by rw [Nat.zero_add]⟩
      rw [Nat.zero_add, List.range_succ, List.map_append, List.map_append, List.map_singleton, List.map_singleton, keyS_D, e1]
      have eR : rD ((rw1 nx k).map (at1 c)) = .tup (((rw1 nx k).map (at1 c)).map nD) := rfl
      rw [eR]
      rw [forB_eq]
      show (lift (some [some M, some (.lst (c.map nD)), some (.lst (((List.range k).map (keyS nx c)).map kpD)), some (nD k), some (rD (rw1 nx k)), o5, none]) >>= kyB) = _
      rw [lift_some, bind_ok]
      unfold kyB
      generalize ((rw1 nx k).map (at1 c)).map nD = G at *
      generalize nD (at1 c k) = A at *
      generalize ((List.range k).map (keyS nx c)).map kpD = KS at *
      generalize rD (rw1 nx k) = RK at *
      generalize nD k = KK at *
      generalize c.map nD = CC at *
      simp only [app_eq, tupE_eq, argC_eq, argN_eq, bin_eq, un_eq, var, List.getElem?_cons_succ, List.getElem?_cons_zero, bind_ok, e2, e3, btuple_l, List.length_cons, List.length_nil, Nat.zero_add, Nat.reduceAdd, chk_2, z, if_true, if_pos, List.set])
  rw [en, List.length_map, h.len, Nat.zero_add] at q
  exact ⟨o3', o4', q⟩
def scW : SM := (seq (asg (gnm 2) (lstE argN))
  (seq (for_ (ienum (un (oattr ["Machine"] "nexts") (var 0))) (gtup [(gnm 3), (gnm 4)]) kyB)
  (seq (asg (gnm 5) (call numF (argC (var 2) argN)))
  (seq (Py.ite (tst (bin oeq (un bmaxL (var 5)) (un bmaxL (var 1)))) (ret (var 1)) skip)
  (asg (gnm 1) (var 5))))))
theorem step_run (h : Tbl S L S nx) (h0 : 0 < S) (hz : S ≤ 1000) (hL : L ≤ 1000) {n : Nat} {os : List (List Nat)} {c : List Nat} (hc : c.length = S) (o2 o3 o4 o5 : Option D) :
    ∃ o2' o3' o4', scW [some (macD n nx os), some (.lst (c.map nD)), o2, o3, o4, o5, none] = .ok (if mxN (stepC nx c) = mxN c then .ret (.lst (c.map nD)) else .next [some (macD n nx os), some (.lst ((stepC nx c).map nD)), o2', o3', o4', some (.lst ((stepC nx c).map nD)), none]) := by
  obtain ⟨o3', o4', q⟩ := ky_loop h hz hL (M := macD n nx os) hc o3 o4 o5
  have e1 := mac_nx n nx os
  have sl : (stepC nx c).length = S := by rw [stepC_len, h.len]
  have e2 : numF [.lst (((List.range S).map (keyS nx c)).map kpD)] = .ok (.lst ((stepC nx c).map nD)) := by
    rw [numF_run key_kp (by simp; exact Nat.lt_of_le_of_lt hz (by decide))]
    unfold stepC
    rw [h.len]
  have e3 := bmax_nD (c := stepC nx c) (by omega)
  have e4 := bmax_nD (c := c) (by omega)
  have e5 := nat_eqN (mxN (stepC nx c)) (mxN c)
  refine ⟨some (.lst (((List.range S).map (keyS nx c)).map kpD)), o3', o4', ?_⟩
  unfold scW
  refine (asg_p (d := .lst []) (by simp)).trans ?_
  refine (for_p (xs := enumL 0 (nx.map rD)) ?_ q).trans ?_
  · generalize macD n nx os = M at *
    generalize nx.map rD = NX at *
    unfold ienum iseq
    simp [var, e1]
  generalize ((List.range S).map (keyS nx c)).map kpD = KS at *
  generalize macD n nx os = M at *
  generalize hs : (stepC nx c).map nD = SC at *
  generalize c.map nD = CC at *
  generalize hm1 : nD (mxN (stepC nx c)) = M1 at *
  generalize hm2 : nD (mxN c) = M2 at *
  by_cases hq : mxN (stepC nx c) = mxN c
  · rw [if_pos hq]
    rw [decide_eq_true hq] at e5
    simp [var, e2, e3, e4, e5]
  · rw [if_neg hq]
    rw [decide_eq_false hq] at e5
    simp [var, e2, e3, e4, e5]
theorem classes_loop (h : Tbl S L S nx) (h0 : 0 < S) (hz : S ≤ 1000) (hL : L ≤ 1000) {n : Nat} {os : List (List Nat)} : ∀ (k fu : Nat) (c : List Nat) (o2 o3 o4 o5 : Option D), Met S c → S ≤ mxN c + k + 1 → k < fu →
    whileL (tst (cst (.bl true))) scW fu [some (macD n nx os), some (.lst (c.map nD)), o2, o3, o4, o5, none] = .ok (.ret (.lst ((clsL nx c k).map nD)))
  | k, 0, c, o2, o3, o4, o5, _, _, hf => by omega
  | k, fu + 1, c, o2, o3, o4, o5, hm, hk, hf => by
    obtain ⟨o2', o3', o4', q⟩ := step_run h h0 hz hL (n := n) (os := os) hm.1 o2 o3 o4 o5
    have hlen := h.len
    obtain ⟨g1, g2⟩ := step_mx (nx := nx) (c := c) (by rw [hlen]; exact hm) (by omega)
    by_cases hq : mxN (stepC nx c) = mxN c
    · rw [if_pos hq] at q
      rw [wh_ret rfl q]
      cases k with
      | zero => rfl
      | succ k => rw [clsL, if_pos hq]
    · rw [if_neg hq] at q
      rw [wh_next rfl q]
      cases k with
      | zero => omega
      | succ k =>
        rw [clsL, if_neg hq]
        refine classes_loop h h0 hz hL k fu (stepC nx c) o2' o3' o4' _ ?_ (by omega) (by omega)
        have := met_step (nx := nx) (c := c)
        rw [hlen] at this
        exact this
def scB : SM := (seq (asg (gnm 1) (call numF (argC (un blist (un (oattr ["Machine"] "outs") (var 0))) argN)))
  (while_ (tst (cst (.bl true))) scW))
def scF : List D → Res D := fn 1 7 scB
/-- the classes of a machine's states -/
def clsM (nx os : List (List Nat)) : List Nat := clsL nx (numb os) nx.length
theorem scF_ok {n : Nat} {os : List (List Nat)} (h : Tbl S L S nx) (ho : os.length = S) (h0 : 0 < S) (hz : S ≤ 1000) (hL : L ≤ 1000) : scF [macD n nx os] = .ok (.lst ((clsM nx os).map nD)) := by
  have e1 := mac_os n nx os
  have e2 := numF_run key_rD (ks := os) (by rw [ho]; exact Nat.lt_of_le_of_lt hz (by decide))
  have e3 : blist (.tup (os.map rD)) = .ok (.lst (os.map rD)) := rfl
  have hm := met_numb os
  rw [ho] at hm
  have hmx := hm.1
  have q := classes_loop h h0 hz hL (n := n) (os := os) S FUEL (numb os) none none none none hm (by omega) (Nat.lt_of_le_of_lt hz (by decide))
  have ec : clsL nx (numb os) S = clsM nx os := by unfold clsM; rw [h.len]
  rw [ec] at q
  unfold scF
  rw [fn1]
  show done (scB [some (macD n nx os), none, none, none, none, none, none]) = _
  unfold scB
  rw [asg_p (d := .lst ((numb os).map nD)) ?_]
  · show done (whileL (tst (cst (.bl true))) scW FUEL [some (macD n nx os), some (.lst ((numb os).map nD)), none, none, none, none, none]) = _
    rw [q]
    rfl
  · generalize macD n nx os = M at *
    generalize os.map rD = OS at *
    generalize (numb os).map nD = NO at *
    simp only [call_eq, argC_eq, argN_eq, un_eq, var, List.getElem?_cons_zero, bind_ok, e1, e3, e2]
theorem clsM_lt {os : List (List Nat)} (h : Tbl S L S nx) (ho : os.length = S) (h0 : 0 < S) : (clsM nx os).length = S ∧ ∀ s, s < S → at1 (clsM nx os) s < S := by
  have hm := met_numb os
  rw [ho, ← h.len] at hm
  have hm2 := cls_met (nx := nx) nx.length (numb os) hm
  have hlen := h.len
  obtain ⟨g1, g2⟩ := step_mx hm2 (by omega)
  refine ⟨by show (clsL nx (numb os) nx.length).length = S; rw [hm2.1, hlen], fun s hs => ?_⟩
  have hmem : at1 (clsM nx os) s ∈ clsM nx os := by
    unfold at1
    have hl : s < (clsM nx os).length := by
      show s < (clsL nx (numb os) nx.length).length
      rw [hm2.1, hlen]
      exact hs
    rw [List.getD_eq_getElem?_getD, List.getElem?_eq_getElem hl]
    exact List.getElem_mem hl
  have := mx_ge hmem
  have e : mxN (clsM nx os) = mxN (clsL nx (numb os) nx.length) := rfl
  omega
end
end Py.U
/-! The search by levels, as data: the program's form and the laws' form. -/
namespace Py.U
section
variable {S L : Nat} {nx : List (List Nat)} {cls : List Nat}
def rowN (C : Nat → Nat) (nx : List (List Nat)) (f : List Nat) (s : Nat) : List Nat := (nx.getD s []).map fun t => (f.map C).idxOf (C t)
def dicC (C : Nat → Nat) (f : List Nat) : D := .dic false (tabF nD 0 (f.map C))
theorem stepT_mem (C : Nat → Nat) (f : List Nat) (t : Nat) : C t ∈ (stepT C f t).map C := by
  unfold stepT
  split
  · assumption
  · simp
theorem idx_pre {C : Nat → Nat} {f r : List Nat} {t : Nat} (h : C t ∈ f.map C) : ((f ++ r).map C).idxOf (C t) = (f.map C).idxOf (C t) := by
  rw [List.map_append]
  exact idx_app h
theorem dic_not {C : Nat → Nat} {f : List Nat} {t : Nat} (h : C t ∉ f.map C) : onotin (nD (C t)) (dicC C f) = .ok (.bl true) ∧ putD (nD (C t)) (nD f.length) (tabF nD 0 (f.map C)) = tabF nD 0 ((f ++ [t]).map C) := by
  have f1 := find_tabF key_nD (C t) (f.map C) 0
  rw [if_neg h] at f1
  refine ⟨?_, ?_⟩
  · show onotin (nD (C t)) (.dic false (tabF nD 0 (f.map C))) = _
    rw [onotin_dic (key_nD.ok _), f1]
    rfl
  · have := put_tabF key_nD (C t) (f.map C) 0 h
    rw [Nat.zero_add, List.length_map] at this
    rw [this, List.map_append]
    rfl
theorem dic_has {C : Nat → Nat} {f : List Nat} {t : Nat} (h : C t ∈ f.map C) : onotin (nD (C t)) (dicC C f) = .ok (.bl false) ∧ oidx (dicC C f) (nD (C t)) = .ok (nD ((f.map C).idxOf (C t))) := by
  have f1 := find_tabF key_nD (C t) (f.map C) 0
  rw [if_pos h, Nat.zero_add] at f1
  refine ⟨?_, oidx_dic (key_nD.ok _) f1⟩
  show onotin (nD (C t)) (.dic false (tabF nD 0 (f.map C))) = _
  rw [onotin_dic (key_nD.ok _), f1]
  rfl
/-! ### the program's form -/
def lmI : SM := (seq (Py.ite (tst (bin onotin (bin oidx (var 1) (var 6)) (var 3))) (seq (setL 3 (bin oidx (var 1) (var 6)) (un blen (var 2)))
  (app 2 (var 6))) skip)
  (app 5 (bin oidx (var 3) (bin oidx (var 1) (var 6)))))
theorem lmI_step {M A : D} {f g : List Nat} {t : Nat} (ht : t < cls.length) (hf : f.length < 1000) (hg : g.length ≤ 1000) (o6 : Option D) :
    forB (gnm 6) lmI (nD t) [some M, some (.lst (cls.map nD)), some (.lst (f.map nD)), some (dicC (at1 cls) f), some A, some (.lst (g.map nD)), o6, none] = .ok (.next [some M, some (.lst (cls.map nD)), some (.lst ((stepT (at1 cls) f t).map nD)), some (dicC (at1 cls) (stepT (at1 cls) f t)), some A, some (.lst ((g ++ [((stepT (at1 cls) f t).map (at1 cls)).idxOf (at1 cls t)]).map nD)), some (nD t), none]) := by
  have e1 := idx_nL ht
  have zg : (g.map nD).length < SZ := szN hg
  have zf : (f.map nD).length < SZ := szN (by omega)
  rw [forB_eq, gnm_eq, lift_some, bind_ok]
  unfold lmI
  show seq _ _ [some M, some (.lst (cls.map nD)), some (.lst (f.map nD)), some (dicC (at1 cls) f), some A, some (.lst (g.map nD)), some (nD t), none] = _
  rw [List.map_append, List.map_singleton]
  by_cases q : at1 cls t ∈ f.map (at1 cls)
  · have e : stepT (at1 cls) f t = f := if_pos q
    rw [e]
    obtain ⟨n1, g1⟩ := dic_has q
    generalize nD ((f.map (at1 cls)).idxOf (at1 cls t)) = N at *
    generalize dicC (at1 cls) f = DC at *
    generalize nD (at1 cls t) = K at *
    generalize g.map nD = G at *
    generalize cls.map nD = CL at *
    generalize nD t = T at *
    simp [var, e1, n1, g1, zg]
  · have e : stepT (at1 cls) f t = f ++ [t] := if_neg q
    obtain ⟨n1, p1⟩ := dic_not q
    have g1 := (dic_has (stepT_mem (at1 cls) f t)).2
    rw [e] at g1 ⊢
    have sl : setL 3 (bin oidx (var 1) (var 6)) (un blen (var 2)) [some M, some (.lst (cls.map nD)), some (.lst (f.map nD)), some (dicC (at1 cls) f), some A, some (.lst (g.map nD)), some (nD t), none] = .ok (.next [some M, some (.lst (cls.map nD)), some (.lst (f.map nD)), some (dicC (at1 cls) (f ++ [t])), some A, some (.lst (g.map nD)), some (nD t), none]) := by
      have b1 := lenN f nD
      have := setL_dic (i := 3) (j := bin oidx (var 1) (var 6)) (m := un blen (var 2)) (e := [some M, some (.lst (cls.map nD)), some (.lst (f.map nD)), some (dicC (at1 cls) f), some A, some (.lst (g.map nD)), some (nD t), none]) (t := false) (kvs := tabF nD 0 (f.map (at1 cls))) (k := nD (at1 cls t)) (d := nD f.length) rfl (by
        generalize f.map nD = FF at *
        simp [var, b1]) (by
        generalize cls.map nD = CL at *
        generalize nD t = T at *
        simp [var, e1]) (key_nD.ok _) (by rw [tabF_len, List.length_map]; exact Nat.lt_trans hf (by decide))
      rw [this, p1]
      rfl
    have ef : (f ++ [t]).map nD = f.map nD ++ [nD t] := by simp
    rw [ef]
    generalize nD (((f ++ [t]).map (at1 cls)).idxOf (at1 cls t)) = N at *
    generalize dicC (at1 cls) (f ++ [t]) = DC2 at *
    generalize dicC (at1 cls) f = DC at *
    generalize nD (at1 cls t) = K at *
    generalize g.map nD = G at *
    generalize f.map nD = FF at *
    generalize cls.map nD = CL at *
    generalize nD t = T at *
    simp [var, e1, n1, g1, zg, zf, sl]
theorem lm_inner {M A : D} (hcl : cls.length = S) (hz : S ≤ 999) (hC : ∀ s, s < S → at1 cls s < S) : ∀ (ts f g : List Nat) (o6 : Option D), Fnd (at1 cls) S f → (∀ t ∈ ts, t < S) → g.length + ts.length ≤ 1000 →
    ∃ o6', forL (forB (gnm 6) lmI) (ts.map nD) [some M, some (.lst (cls.map nD)), some (.lst (f.map nD)), some (dicC (at1 cls) f), some A, some (.lst (g.map nD)), o6, none] = .ok (.next [some M, some (.lst (cls.map nD)), some (.lst ((ts.foldl (stepT (at1 cls)) f).map nD)), some (dicC (at1 cls) (ts.foldl (stepT (at1 cls)) f)), some A, some (.lst ((g ++ ts.map fun t => ((ts.foldl (stepT (at1 cls)) f).map (at1 cls)).idxOf (at1 cls t)).map nD)), o6', none])
  | [], f, g, o6, _, _, _ => ⟨o6, by rw [List.map_nil, List.map_nil, List.append_nil]; rfl⟩
  | t :: ts, f, g, o6, hF, ht, hg => by
    have h1 := lmI_step (M := M) (A := A) (f := f) (g := g) (t := t) (by rw [hcl]; exact ht t List.mem_cons_self) (by have := hF.len hC; omega) (by simp at hg; omega) o6
    obtain ⟨o6', h2⟩ := lm_inner hcl hz hC (M := M) (A := A) ts (stepT (at1 cls) f t) (g ++ [((stepT (at1 cls) f t).map (at1 cls)).idxOf (at1 cls t)]) (some (nD t)) (hF.snoc (ht t List.mem_cons_self)) (fun x hx => ht x (List.mem_cons_of_mem _ hx)) (by simp at hg ⊢; omega)
    refine ⟨o6', ?_⟩
    rw [List.map_cons, forL, h1]
    obtain ⟨r, hr⟩ := foldT_pre (C := at1 cls) ts (stepT (at1 cls) f t)
    have e : ((stepT (at1 cls) f t).map (at1 cls)).idxOf (at1 cls t) = ((ts.foldl (stepT (at1 cls)) (stepT (at1 cls) f t)).map (at1 cls)).idxOf (at1 cls t) := by
      rw [hr, idx_pre (stepT_mem _ f t)]
    rw [List.append_assoc] at h2
    show forL _ _ _ = _
    rw [h2, List.foldl_cons, List.map_cons, e]
    rfl
def rowsA (C : Nat → Nat) (nx : List (List Nat)) (f : List Nat) (a : Nat) : List (List Nat) := (f.take a).map (rowN C nx f)
theorem rows_next {C : Nat → Nat} {n : Nat} {f : List Nat} {a : Nat} (hc : Cld C nx f a) (ha : a < f.length) : rowsA C nx (stepS C nx f (f.getD a 0)) (a + 1) = rowsA C nx f a ++ [rowN C nx (stepS C nx f (f.getD a 0)) (f.getD a 0)] := by
  obtain ⟨r, hr⟩ := stepS_pre (C := C) (nx := nx) f (f.getD a 0)
  unfold rowsA
  have e1 : (stepS C nx f (f.getD a 0)).take (a + 1) = f.take a ++ [f.getD a 0] := by
    rw [hr, List.take_append_of_le_length (by omega), List.take_add_one, List.getElem?_eq_getElem ha]
    simp [List.getD_eq_getElem?_getD, ha]
  rw [e1, List.map_append, List.map_singleton]
  congr 1
  refine List.map_congr_left fun s hs => ?_
  unfold rowN
  refine List.map_congr_left fun t ht => ?_
  obtain ⟨i, hi, rfl⟩ := List.mem_iff_getElem.mp hs
  rw [List.length_take] at hi
  have hi2 : i < a := by omega
  have e2 : (f.take a)[i] = f.getD i 0 := by
    rw [List.getElem_take, List.getD_eq_getElem?_getD, List.getElem?_eq_getElem (by omega)]
    rfl
  rw [e2] at ht
  rw [hr, idx_pre (hc i hi2 t ht)]
def lmW : SM := (seq (asg (gnm 5) (lstE argN))
  (seq (for_ (iseq (bin oidx (un (oattr ["Machine"] "nexts") (var 0)) (bin oidx (var 2) (un blen (var 4))))) (gnm 6) lmI)
  (app 4 (un btuple (var 5)))))
def lmT : TM := tst (bin olt (un blen (var 4)) (un blen (var 2)))
theorem oltN (a b : Nat) : olt (nD a) (nD b) = .ok (.bl (decide (a < b))) := by
  show olt (.int (a : Int)) (.int (b : Int)) = _
  rw [olt_ii]
  congr 2
  exact decide_eq_decide.mpr (by omega)
theorem lm_loop (h : Tbl S L S nx) (hz : S ≤ 999) (hL : L ≤ 1000) (hcl : cls.length = S) (hC : ∀ s, s < S → at1 cls s < S) {n : Nat} {os : List (List Nat)} : ∀ (k fu : Nat) (f : List Nat) (a : Nat) (o5 o6 : Option D), Fnd (at1 cls) S f → Cld (at1 cls) nx f a → a ≤ f.length → S ≤ a + k → k < fu →
    ∃ o5' o6', whileL lmT lmW fu [some (macD n nx os), some (.lst (cls.map nD)), some (.lst (f.map nD)), some (dicC (at1 cls) f), some (.lst ((rowsA (at1 cls) nx f a).map rD)), o5, o6, none] = .ok (.next [some (macD n nx os), some (.lst (cls.map nD)), some (.lst ((bfsL (at1 cls) nx k f a).map nD)), some (dicC (at1 cls) (bfsL (at1 cls) nx k f a)), some (.lst (((bfsL (at1 cls) nx k f a).map (rowN (at1 cls) nx (bfsL (at1 cls) nx k f a))).map rD)), o5', o6', none])
  | k, 0, f, a, o5, o6, _, _, _, _, hf => by omega
  | k, fu + 1, f, a, o5, o6, hF, hc, ha, hk, hf => by
    have hlf := hF.len hC
    have lr : (rowsA (at1 cls) nx f a).length = a := by
      unfold rowsA
      rw [List.length_map, List.length_take]
      omega
    have e1 := lenN (rowsA (at1 cls) nx f a) rD
    rw [lr] at e1
    have e2 := lenN f nD
    have e3 := oltN a f.length
    have ht : lmT [some (macD n nx os), some (.lst (cls.map nD)), some (.lst (f.map nD)), some (dicC (at1 cls) f), some (.lst ((rowsA (at1 cls) nx f a).map rD)), o5, o6, none] = .ok (decide (a < f.length)) := by
      unfold lmT
      generalize (rowsA (at1 cls) nx f a).map rD = R at *
      generalize f.map nD = FF at *
      generalize dicC (at1 cls) f = DC at *
      generalize macD n nx os = M at *
      generalize nD a = A at *
      generalize nD f.length = FL at *
      simp [var, e1, e2, e3]
    by_cases q : a < f.length
    · rw [decide_eq_true q] at ht
      cases k with
      | zero => omega
      | succ k =>
        have hs : f.getD a 0 < S := hF.lt _ (by
          rw [List.getD_eq_getElem?_getD, List.getElem?_eq_getElem q]
          exact List.getElem_mem q)
        have hN : ∀ t ∈ nx.getD (f.getD a 0) [], t < S := fun t ht => (h.at hs).2.2 t ht
        obtain ⟨g1, g2⟩ := hF.step (nx := nx) hN
        obtain ⟨r, hr⟩ := stepS_pre (C := at1 cls) (nx := nx) f (f.getD a 0)
        have hc' : Cld (at1 cls) nx (stepS (at1 cls) nx f (f.getD a 0)) (a + 1) := fun i hi t ht => by
          by_cases hia : i = a
          · subst hia
            have e : (stepS (at1 cls) nx f (f.getD i 0)).getD i 0 = f.getD i 0 := by rw [hr, getD_pre q]
            rw [e] at ht
            exact g2 t ht
          · have hi' : i < a := by omega
            have e : (stepS (at1 cls) nx f (f.getD a 0)).getD i 0 = f.getD i 0 := by rw [hr, getD_pre (by omega)]
            rw [e] at ht
            have := hc i hi' t ht
            rw [hr, List.map_append]
            exact List.mem_append_left _ this
        obtain ⟨o6', hi⟩ := lm_inner (M := macD n nx os) (A := .lst ((rowsA (at1 cls) nx f a).map rD)) hcl hz hC (nx.getD (f.getD a 0) []) f [] o6 hF hN (by
          have := (h.at hs).2.1
          unfold rw1 at this
          rw [this]
          simp
          exact hL)
        rw [List.nil_append] at hi
        have hb : lmW [some (macD n nx os), some (.lst (cls.map nD)), some (.lst (f.map nD)), some (dicC (at1 cls) f), some (.lst ((rowsA (at1 cls) nx f a).map rD)), o5, o6, none] = .ok (.next [some (macD n nx os), some (.lst (cls.map nD)), some (.lst ((stepS (at1 cls) nx f (f.getD a 0)).map nD)), some (dicC (at1 cls) (stepS (at1 cls) nx f (f.getD a 0))), some (.lst ((rowsA (at1 cls) nx (stepS (at1 cls) nx f (f.getD a 0)) (a + 1)).map rD)), some (.lst ((rowN (at1 cls) nx (stepS (at1 cls) nx f (f.getD a 0)) (f.getD a 0)).map nD)), o6', none]) := by
          have e4 := mac_nx n nx os
          have e5 : oidx (.lst (f.map nD)) (nD a) = .ok (nD (f.getD a 0)) := idx_nL q
          have e6 : oidx (.tup (nx.map rD)) (nD (f.getD a 0)) = .ok (.tup ((nx.getD (f.getD a 0) []).map nD)) := idx_tT h hs
          have zr : ((rowsA (at1 cls) nx f a).map rD).length < SZ := szN (by omega)
          rw [rows_next (n := S) hc q, List.map_append, List.map_singleton]
          change forL _ _ _ = .ok (.next [_, _, some (.lst ((stepS (at1 cls) nx f (f.getD a 0)).map nD)), some (dicC (at1 cls) (stepS (at1 cls) nx f (f.getD a 0))), _, some (.lst ((rowN (at1 cls) nx (stepS (at1 cls) nx f (f.getD a 0)) (f.getD a 0)).map nD)), _, _]) at hi
          unfold lmW
          refine (asg_p (d := .lst []) (by simp)).trans ?_
          refine (for_p (xs := (nx.getD (f.getD a 0) []).map nD) ?_ hi).trans ?_
          · generalize (rowsA (at1 cls) nx f a).map rD = R at *
            generalize (nx.getD (f.getD a 0) []).map nD = TS at *
            generalize f.map nD = FF at *
            generalize dicC (at1 cls) f = DC at *
            generalize macD n nx os = M at *
            generalize nx.map rD = NX at *
            generalize nD (f.getD a 0) = FA at *
            generalize nD a = A at *
            simp [var, e4, e1, e5, e6]
          · have er : rD (rowN (at1 cls) nx (stepS (at1 cls) nx f (f.getD a 0)) (f.getD a 0)) = .tup ((rowN (at1 cls) nx (stepS (at1 cls) nx f (f.getD a 0)) (f.getD a 0)).map nD) := rfl
            rw [er]
            generalize (rowN (at1 cls) nx (stepS (at1 cls) nx f (f.getD a 0)) (f.getD a 0)).map nD = RN at *
            generalize (rowsA (at1 cls) nx f a).map rD = R at *
            simp [var, zr]
        rw [wh_next ht hb, bfsL, if_pos q]
        exact lm_loop h hz hL hcl hC k fu _ (a + 1) _ _ g1 hc' (by rw [hr, List.length_append]; omega) (by omega) (by omega)
    · rw [decide_eq_false q] at ht
      have ea : a = f.length := by omega
      have eb : bfsL (at1 cls) nx k f a = f := by
        cases k with
        | zero => rfl
        | succ k => rw [bfsL, if_neg q]
      rw [wh_stop ht, eb]
      refine ⟨o5, o6, ?_⟩
      have er : rowsA (at1 cls) nx f a = f.map (rowN (at1 cls) nx f) := by
        unfold rowsA
        rw [ea, List.take_length]
      rw [er]
/-- the states found -/
def fndM (nx os : List (List Nat)) : List Nat := bfsL (at1 (clsM nx os)) nx nx.length [0] 0
def lsN (nx os : List (List Nat)) : List (List Nat) := (fndM nx os).map (rowN (at1 (clsM nx os)) nx (fndM nx os))
def lsO (nx os : List (List Nat)) : List (List Nat) := (fndM nx os).map (rw1 os)
theorem fnd_0 {C : Nat → Nat} {S : Nat} (h0 : 0 < S) : Fnd C S [0] := ⟨by simp, fun s hs => by rw [List.mem_singleton.mp hs]; exact h0⟩
theorem cld_0 {C : Nat → Nat} {f : List Nat} : Cld C nx f 0 := fun i hi => by omega
theorem fndM_ok {os : List (List Nat)} (h : Tbl S L S nx) (ho : os.length = S) (h0 : 0 < S) : Fnd (at1 (clsM nx os)) S (fndM nx os) ∧ Cld (at1 (clsM nx os)) nx (fndM nx os) (fndM nx os).length ∧ (fndM nx os).length ≤ S ∧ ∃ r, fndM nx os = [0] ++ r := by
  obtain ⟨c1, c2⟩ := clsM_lt h ho h0
  obtain ⟨g1, g2⟩ := bfs_ok (C := at1 (clsM nx os)) (nx := nx) (n := S) (fun s hs t ht => (h.at hs).2.2 t ht) nx.length [0] 0 (fnd_0 h0) cld_0 (by simp)
  have hl := g1.len c2
  exact ⟨g1, g2 (by have e := h.len; omega), hl, bfs_pre _ _ _⟩
theorem lsN_tbl {os : List (List Nat)} (h : Tbl S L S nx) (ho : os.length = S) (h0 : 0 < S) : Tbl (fndM nx os).length L (fndM nx os).length (lsN nx os) := by
  obtain ⟨g1, g2, g3, _⟩ := fndM_ok h ho h0
  refine ⟨by simp [lsN], fun r hr => ?_⟩
  obtain ⟨s, hs, rfl⟩ := List.mem_map.mp hr
  have hs2 := g1.lt s hs
  have hrow := (h.at hs2).2
  unfold rw1 at hrow
  refine ⟨by unfold rowN; rw [List.length_map]; exact hrow.1, fun x hx => ?_⟩
  obtain ⟨t, ht, rfl⟩ := List.mem_map.mp hx
  obtain ⟨i, hi, rfl⟩ := List.mem_iff_getElem.mp hs
  have e : (fndM nx os)[i] = (fndM nx os).getD i 0 := by rw [List.getD_eq_getElem?_getD, List.getElem?_eq_getElem hi]; rfl
  rw [e] at ht
  have := List.idxOf_lt_length_of_mem (g2 i hi t ht)
  simpa using this
theorem lsO_tbl {os : List (List Nat)} {B : Nat} (h : Tbl S L S nx) (ho : Tbl S L B os) (h0 : 0 < S) : Tbl (fndM nx os).length L B (lsO nx os) := by
  obtain ⟨g1, g2, g3, _⟩ := fndM_ok h ho.len h0
  refine ⟨by simp [lsO], fun r hr => ?_⟩
  obtain ⟨s, hs, rfl⟩ := List.mem_map.mp hr
  exact (ho.at (g1.lt s hs)).2
end
end Py.U
/-! The laws' form of the least machine. -/
namespace Py.U
section
variable {S L : Nat} {nx os : List (List Nat)}
/-! the search -/
theorem ogeN (a b : Nat) : oge (nD a) (nD b) = .ok (.bl (decide (b ≤ a))) := by
  show oge (.int (a : Int)) (.int (b : Int)) = _
  rw [oge_ii]
  congr 2
  exact decide_eq_decide.mpr (by omega)
end
end Py.U
/-! What a machine writes; the least machine writes the same; closures of searches. No program in sight. -/
namespace Py.U
/-! ### what is written -/
def wr (nx os : List (List Nat)) (s : Nat) : List Nat → List Nat
  | [] => []
  | l :: ls => at1 (rw1 os s) l :: wr nx os (at1 (rw1 nx s) l) ls
section
variable {α β : Type} [DecidableEq α] [DecidableEq β]
theorem idx_inj {l : List α} {x y : α} (hx : x ∈ l) (hy : y ∈ l) (h : l.idxOf x = l.idxOf y) : x = y := by
  have h1 := List.idxOf_lt_length_of_mem hx
  have h2 := List.idxOf_lt_length_of_mem hy
  have e1 : l[l.idxOf x] = x := List.getElem_idxOf h1
  have e2 : l[l.idxOf y] = y := List.getElem_idxOf h2
  rw [← e1, ← e2]
  congr 1
theorem at1_numb {ks : List α} {i : Nat} (h : i < ks.length) : at1 (numb ks) i = (uniq ks).idxOf ks[i] := by
  unfold at1 numb
  rw [List.getD_eq_getElem?_getD, List.getElem?_map, List.getElem?_eq_getElem h]
  rfl
theorem numb_inj {ks : List α} {i j : Nat} (hi : i < ks.length) (hj : j < ks.length) (h : at1 (numb ks) i = at1 (numb ks) j) : ks[i] = ks[j] := by
  rw [at1_numb hi, at1_numb hj] at h
  exact idx_inj (mem_uniq.mpr (List.getElem_mem hi)) (mem_uniq.mpr (List.getElem_mem hj)) h
theorem inj_of_len {f : α → β} {us : List α} {vs : List β} (hu : us.Nodup) (hv : vs.Nodup) (hs : ∀ v ∈ vs, ∃ u ∈ us, f u = v) (hl : us.length ≤ vs.length) {u u' : α} (h1 : u ∈ us) (h2 : u' ∈ us) (h : f u = f u') : u = u' := by
  by_cases q : u = u'
  · exact q
  · have sub : vs ⊆ (us.erase u).map f := fun v hv => by
      obtain ⟨w, hw, rfl⟩ := hs v hv
      by_cases e : w = u
      · rw [e, h]
        exact List.mem_map.mpr ⟨u', (List.mem_erase_of_ne (fun z => q z.symm)).mpr h2, rfl⟩
      · exact List.mem_map.mpr ⟨w, (List.mem_erase_of_ne e).mpr hw, rfl⟩
    have l1 := hv.length_le_of_subset sub
    rw [List.length_map, List.length_erase_of_mem h1] at l1
    have l2 := List.length_pos_of_mem h1
    omega
end
section
variable {S L : Nat} {nx os : List (List Nat)}
theorem rw1_get {t : List (List Nat)} {i : Nat} (h : i < t.length) : rw1 t i = t[i] := by
  unfold rw1
  rw [List.getD_eq_getElem?_getD, List.getElem?_eq_getElem h]
  rfl
def RefO (S : Nat) (os : List (List Nat)) (c : List Nat) : Prop := ∀ s s', s < S → s' < S → at1 c s = at1 c s' → rw1 os s = rw1 os s'
theorem step_key (h : Tbl S L S nx) {c : List Nat} {s s' : Nat} (hs : s < S) (hs' : s' < S) (e : at1 (stepC nx c) s = at1 (stepC nx c) s') : keyS nx c s = keyS nx c s' := by
  unfold stepC at e
  have l : ((List.range nx.length).map (keyS nx c)).length = S := by simp [h.len]
  have := numb_inj (ks := (List.range nx.length).map (keyS nx c)) (i := s) (j := s') (by omega) (by omega) e
  simpa using this
theorem refO_numb (ho : os.length = S) : RefO S os (numb os) := fun s s' hs hs' e => by
  have := numb_inj (ks := os) (i := s) (j := s') (by omega) (by omega) e
  rw [rw1_get (by omega), rw1_get (by omega)]
  exact this
theorem refO_cls (h : Tbl S L S nx) : ∀ (k : Nat) (c : List Nat), RefO S os c → RefO S os (clsL nx c k)
  | 0, c, hc => hc
  | k + 1, c, hc => by
    rw [clsL]
    split
    · exact hc
    · refine refO_cls h k _ fun s s' hs hs' e => hc s s' hs hs' ?_
      have := congrArg Prod.fst (step_key h hs hs' e)
      exact this
theorem cls_stable (h : Tbl S L S nx) (ho : os.length = S) (h0 : 0 < S) {s s' : Nat} (hs : s < S) (hs' : s' < S) (e : at1 (clsM nx os) s = at1 (clsM nx os) s') : keyS nx (clsM nx os) s = keyS nx (clsM nx os) s' := by
  have hm := met_numb os
  rw [ho, ← h.len] at hm
  have hn : 0 < nx.length := by rw [h.len]; exact h0
  have hm2 := cls_met (nx := nx) nx.length (numb os) hm
  have hend := cls_end hn nx.length (numb os) hm (by omega)
  change Met nx.length (clsM nx os) at hm2
  change mxN (stepC nx (clsM nx os)) = mxN (clsM nx os) at hend
  generalize clsM nx os = c at *
  have h1 := hm2.2 hn
  have h2 : mxN (stepC nx c) + 1 = _ := numb_mx (ks := (List.range nx.length).map (keyS nx c)) (by
    intro e
    have := congrArg List.length e
    simp at this
    rw [this] at hn
    simp at hn)
  have ec : c = ((List.range nx.length).map (keyS nx c)).map Prod.fst := by
    rw [List.map_map]
    exact (range_getD hm2.1).symm
  have mem : ∀ s, s < S → keyS nx c s ∈ uniq ((List.range nx.length).map (keyS nx c)) := fun s hs => mem_uniq.mpr (List.mem_map.mpr ⟨s, List.mem_range.mpr (by rw [h.len]; exact hs), rfl⟩)
  refine inj_of_len (f := Prod.fst) (uniq_nodup _) (uniq_nodup c) (fun v hv => ?_) (by omega) (mem s hs) (mem s' hs') e
  have hv2 := mem_uniq.mp hv
  rw [ec] at hv2
  obtain ⟨u, hu, rfl⟩ := List.mem_map.mp hv2
  exact ⟨u, mem_uniq.mpr hu, rfl⟩
theorem cls_goal (h : Tbl S L S nx) (ho : os.length = S) (h0 : 0 < S) {s s' l : Nat} (hs : s < S) (hs' : s' < S) (hl : l < L) (e : at1 (clsM nx os) s = at1 (clsM nx os) s') : at1 (clsM nx os) (at1 (rw1 nx s) l) = at1 (clsM nx os) (at1 (rw1 nx s') l) := by
  have k := congrArg Prod.snd (cls_stable h ho h0 hs hs' e)
  have l1 := (h.at hs).2.1
  have l2 := (h.at hs').2.1
  have k2 := congrArg (fun r => r.getD l 0) k
  simp only [keyS] at k2
  change ((rw1 nx s).map (at1 (clsM nx os))).getD l 0 = ((rw1 nx s').map (at1 (clsM nx os))).getD l 0 at k2
  rw [List.getD_eq_getElem?_getD, List.getD_eq_getElem?_getD, List.getElem?_map, List.getElem?_map, List.getElem?_eq_getElem (by omega), List.getElem?_eq_getElem (by omega)] at k2
  unfold at1 at k2 ⊢
  rw [List.getD_eq_getElem?_getD (l := rw1 nx s), List.getElem?_eq_getElem (by omega), List.getD_eq_getElem?_getD (l := rw1 nx s'), List.getElem?_eq_getElem (by omega)]
  exact k2
theorem at1_mem {r : List Nat} {l : Nat} (h : l < r.length) : at1 r l ∈ r := by
  unfold at1
  rw [List.getD_eq_getElem?_getD, List.getElem?_eq_getElem h]
  exact List.getElem_mem h
theorem rw1_map {f : Nat → List Nat} {F : List Nat} {i : Nat} (h : i < F.length) : rw1 (F.map f) i = f (F.getD i 0) := by
  unfold rw1
  rw [List.getD_eq_getElem?_getD, List.getElem?_map, List.getElem?_eq_getElem h, List.getD_eq_getElem?_getD, List.getElem?_eq_getElem h]
  rfl
theorem at1_map {f : Nat → Nat} {r : List Nat} {l : Nat} (h : l < r.length) : at1 (r.map f) l = f (at1 r l) := by
  unfold at1
  rw [List.getD_eq_getElem?_getD, List.getElem?_map, List.getElem?_eq_getElem h, List.getD_eq_getElem?_getD, List.getElem?_eq_getElem h]
  rfl
/-- the least machine writes the same -/
theorem ls_wr {B : Nat} (h : Tbl S L S nx) (ho : Tbl S L B os) (h0 : 0 < S) : ∀ (ls : List Nat), (∀ l ∈ ls, l < L) → ∀ i s, i < (fndM nx os).length → s < S → at1 (clsM nx os) ((fndM nx os).getD i 0) = at1 (clsM nx os) s → wr (lsN nx os) (lsO nx os) i ls = wr nx os s ls
  | [], _, i, s, _, _, _ => rfl
  | l :: ls, hl, i, s, hi, hs, e => by
    obtain ⟨g1, g2, g3, _⟩ := fndM_ok h ho.len h0
    have hFi : (fndM nx os).getD i 0 < S := g1.lt _ (by
      rw [List.getD_eq_getElem?_getD, List.getElem?_eq_getElem hi]
      exact List.getElem_mem hi)
    have hl0 := hl l List.mem_cons_self
    have ro : rw1 (lsO nx os) i = rw1 os ((fndM nx os).getD i 0) := rw1_map hi
    have rn : rw1 (lsN nx os) i = rowN (at1 (clsM nx os)) nx (fndM nx os) ((fndM nx os).getD i 0) := rw1_map hi
    have hrow := (h.at hFi).2
    have er : RefO S os (clsM nx os) := refO_cls h _ _ (refO_numb ho.len)
    unfold wr
    rw [ro, er _ _ hFi hs e]
    congr 1
    have en : at1 (rw1 (lsN nx os) i) l = ((fndM nx os).map (at1 (clsM nx os))).idxOf (at1 (clsM nx os) (at1 (rw1 nx ((fndM nx os).getD i 0)) l)) := by
      rw [rn]
      unfold rowN
      exact at1_map (show l < (rw1 nx ((fndM nx os).getD i 0)).length by omega)
    rw [en]
    have hin : at1 (clsM nx os) (at1 (rw1 nx ((fndM nx os).getD i 0)) l) ∈ (fndM nx os).map (at1 (clsM nx os)) := g2 i hi _ (at1_mem (r := rw1 nx ((fndM nx os).getD i 0)) (by omega))
    have hj := List.idxOf_lt_length_of_mem hin
    have ej := List.getElem_idxOf hj
    rw [List.length_map] at hj
    refine ls_wr h ho h0 ls (fun x hx => hl x (List.mem_cons_of_mem _ hx)) _ _ hj ((h.at hs).2.2 _ (at1_mem (by have := (h.at hs).2.1; omega))) ?_
    rw [List.getElem_map] at ej
    rw [List.getD_eq_getElem?_getD, List.getElem?_eq_getElem hj, Option.getD_some, ej]
    exact cls_goal h ho.len h0 hFi hs hl0 e
theorem ls_wr0 {B : Nat} (h : Tbl S L S nx) (ho : Tbl S L B os) (h0 : 0 < S) {ls : List Nat} (hl : ∀ l ∈ ls, l < L) : wr (lsN nx os) (lsO nx os) 0 ls = wr nx os 0 ls := by
  obtain ⟨g1, g2, g3, r, g4⟩ := fndM_ok h ho.len h0
  exact ls_wr h ho h0 ls hl 0 0 (by rw [g4]; simp) h0 (by rw [g4]; rfl)
end
/-! ### closures -/
section
variable {α : Type} [DecidableEq α]
theorem addU_pre (f : List α) (t : α) : ∃ r, addU f t = f ++ r := by
  unfold addU
  split
  · exact ⟨[], by simp⟩
  · exact ⟨[t], rfl⟩
theorem foldU_pre : ∀ (ts f : List α), ∃ r, ts.foldl addU f = f ++ r
  | [], f => ⟨[], by simp⟩
  | t :: ts, f => by
    obtain ⟨r, hr⟩ := addU_pre f t
    obtain ⟨r2, hr2⟩ := foldU_pre ts (f ++ r)
    exact ⟨r ++ r2, by rw [List.foldl_cons, hr, hr2, List.append_assoc]⟩
variable {succ : α → List α}
/-- the successors of the first a are found -/
def CldU (succ : α → List α) (f : List α) (a : Nat) : Prop := ∀ i p, i < a → f[i]? = some p → ∀ q ∈ succ p, q ∈ f
structure FndU (P : α → Prop) (f : List α) : Prop where
  nd : f.Nodup
  all : ∀ p ∈ f, P p
theorem FndU.step {P : α → Prop} (hP : ∀ p, P p → ∀ q ∈ succ p, P q) {f : List α} (h : FndU P f) {p : α} (hp : P p) : FndU P ((succ p).foldl addU f) ∧ ∀ q ∈ succ p, q ∈ (succ p).foldl addU f := by
  obtain ⟨h1, h2⟩ := foldU (succ p) f h.nd
  refine ⟨⟨h1, fun x hx => ?_⟩, fun q hq => (h2 q).mpr (.inr hq)⟩
  rcases (h2 x).mp hx with q | q
  · exact h.all x q
  · exact hP p hp x q
theorem CldU.step {f : List α} {a : Nat} (h : CldU succ f a) {p : α} (hp : f[a]? = some p) : CldU succ ((succ p).foldl addU f) (a + 1) := fun i x hi hx q hq => by
  obtain ⟨r, hr⟩ := foldU_pre (succ p) f
  have ha : a < f.length := by
    by_cases c : a < f.length
    · exact c
    · rw [List.getElem?_eq_none (by omega)] at hp
      cases hp
  rw [hr] at hx ⊢
  rw [List.getElem?_append_left (by omega)] at hx
  by_cases e : i = a
  · subst e
    rw [hp] at hx
    cases hx
    rw [← hr]
    have : ∀ (ts f : List α) (q : α), q ∈ ts → q ∈ ts.foldl addU f := by
      intro ts
      induction ts with
      | nil => intro f q h; cases h
      | cons t ts ih =>
        intro f q h
        rw [List.foldl_cons]
        rcases List.mem_cons.mp h with rfl | h
        · obtain ⟨r, hr⟩ := foldU_pre ts (addU f q)
          rw [hr]
          exact List.mem_append_left _ (mem_addU.mpr (.inr rfl))
        · exact ih _ q h
    exact this _ _ _ hq
  · exact List.mem_append_left _ (h i x (by omega) hx q hq)
/-- the numbers of the successors -/
def cn (succ : α → List α) (f : List α) (p : α) : List Nat := (succ p).map fun q => f.idxOf q
end
end Py.U
/-! The least of the least machine is itself. -/
namespace Py.U
theorem numb_same {α : Type} [DecidableEq α] {ks : List α} {i j : Nat} (hi : i < ks.length) (hj : j < ks.length) (h : ks[i] = ks[j]) : at1 (numb ks) i = at1 (numb ks) j := by
  rw [at1_numb hi, at1_numb hj, h]
theorem row_ext {r r' : List Nat} {L : Nat} {c : Nat → Nat} (h1 : r.length = L) (h2 : r'.length = L) (h : ∀ l, l < L → c (at1 r l) = c (at1 r' l)) : r.map c = r'.map c := by
  apply List.ext_getElem
  · simp [h1, h2]
  · intro i a b
    rw [List.length_map] at a b
    have q := h i (by omega)
    unfold at1 at q
    rw [List.getD_eq_getElem?_getD, List.getD_eq_getElem?_getD, List.getElem?_eq_getElem a, List.getElem?_eq_getElem b] at q
    simp only [List.getElem_map]
    exact q
section
variable {S L : Nat} {nx os : List (List Nat)}
theorem key_same (h : Tbl S L S nx) {c : List Nat} {s s' : Nat} (hs : s < S) (hs' : s' < S) (e : at1 c s = at1 c s') (eg : ∀ l, l < L → at1 c (at1 (rw1 nx s) l) = at1 c (at1 (rw1 nx s') l)) : at1 (stepC nx c) s = at1 (stepC nx c) s' := by
  unfold stepC
  have hl := h.len
  refine numb_same (by simp; omega) (by simp; omega) ?_
  simp only [List.getElem_map, List.getElem_range]
  unfold keyS
  exact Prod.ext e (row_ext (c := at1 c) (h.at hs).2.1 (h.at hs').2.1 eg)
theorem fnd_lt (h : Tbl S L S nx) (ho : os.length = S) (h0 : 0 < S) {i : Nat} (hi : i < (fndM nx os).length) : (fndM nx os).getD i 0 < S := by
  obtain ⟨g1, g2, g3, _⟩ := fndM_ok h ho h0
  exact g1.lt _ (by
      rw [List.getD_eq_getElem?_getD, List.getElem?_eq_getElem hi]
      exact List.getElem_mem hi)
theorem ls_goal (h : Tbl S L S nx) (ho : os.length = S) (h0 : 0 < S) {i l : Nat} (hi : i < (fndM nx os).length) (hl : l < L) : at1 (rw1 (lsN nx os) i) l < (fndM nx os).length ∧ at1 (clsM nx os) ((fndM nx os).getD (at1 (rw1 (lsN nx os) i) l) 0) = at1 (clsM nx os) (at1 (rw1 nx ((fndM nx os).getD i 0)) l) := by
  obtain ⟨g1, g2, g3, _⟩ := fndM_ok h ho h0
  have hFi := fnd_lt h ho h0 hi
  have rn : rw1 (lsN nx os) i = rowN (at1 (clsM nx os)) nx (fndM nx os) ((fndM nx os).getD i 0) := rw1_map hi
  have hrow := (h.at hFi).2
  have en : at1 (rw1 (lsN nx os) i) l = ((fndM nx os).map (at1 (clsM nx os))).idxOf (at1 (clsM nx os) (at1 (rw1 nx ((fndM nx os).getD i 0)) l)) := by
    rw [rn]
    unfold rowN
    exact at1_map (show l < (rw1 nx ((fndM nx os).getD i 0)).length by omega)
  have hin : at1 (clsM nx os) (at1 (rw1 nx ((fndM nx os).getD i 0)) l) ∈ (fndM nx os).map (at1 (clsM nx os)) := g2 i hi _ (at1_mem (r := rw1 nx ((fndM nx os).getD i 0)) (by omega))
  have hj := List.idxOf_lt_length_of_mem hin
  have ej := List.getElem_idxOf hj
  rw [List.length_map] at hj
  rw [en]
  refine ⟨hj, ?_⟩
  rw [List.getElem_map] at ej
  rw [List.getD_eq_getElem?_getD, List.getElem?_eq_getElem hj, Option.getD_some, ej]
/-! ### the search in the least machine -/
theorem bfs_more {C : Nat → Nat} {n : Nat} (hN : ∀ s, s < n → ∀ t ∈ nx.getD s [], t < n) (hC : ∀ s, s < n → C s < n) {f : List Nat} (hF : Fnd C n f) : ∀ j, bfsL C nx n f 0 = bfsL C nx (n + j) f 0
  | 0 => rfl
  | j + 1 => (bfs_more hN hC hF j).trans (bfs_fuel (m := n) hN hC (n + j) f 0 hF (by omega))
end
end Py.U
/-! States apart are apart by a word shorter than the number of states. -/
namespace Py.U
section
variable {S L : Nat} {nx os : List (List Nat)}
def Eqw (L : Nat) (nx os : List (List Nat)) (j s s' : Nat) : Prop := ∀ w : List Nat, w.length ≤ j → (∀ l ∈ w, l < L) → wr nx os s w = wr nx os s' w
theorem Eqw.mono {j j' s s' : Nat} (h : Eqw L nx os j s s') (hj : j' ≤ j) : Eqw L nx os j' s s' := fun w hw hl => h w (by omega) hl
theorem Eqw.goal {j s s' l : Nat} (h : Eqw L nx os (j + 1) s s') (hl : l < L) : Eqw L nx os j (at1 (rw1 nx s) l) (at1 (rw1 nx s') l) := fun w hw hw2 => by
  have q := h (l :: w) (by simp; omega) (fun x hx => by
    rcases List.mem_cons.mp hx with rfl | hx
    · exact hl
    · exact hw2 x hx)
  unfold wr at q
  exact (List.cons.inj q).2
theorem Eqw.bit {j s s' l : Nat} (h : Eqw L nx os (j + 1) s s') (hl : l < L) : at1 (rw1 os s) l = at1 (rw1 os s') l := by
  have q := h [l] (by simp) (fun x hx => by rw [List.mem_singleton.mp hx]; exact hl)
  unfold wr at q
  exact (List.cons.inj q).1
theorem row_eq {r r' : List Nat} (h1 : r.length = L) (h2 : r'.length = L) (h : ∀ l, l < L → at1 r l = at1 r' l) : r = r' := by
  have := row_ext (c := id) h1 h2 h
  simpa using this
theorem cls_words (h : Tbl S L S nx) (h0 : 0 < S) : ∀ (k j : Nat) (c : List Nat), Met S c → (∀ s s', s < S → s' < S → Eqw L nx os j s s' → at1 c s = at1 c s') →
    ∃ j', j' + mxN c ≤ j + mxN (clsL nx c k) ∧ ∀ s s', s < S → s' < S → Eqw L nx os j' s s' → at1 (clsL nx c k) s = at1 (clsL nx c k) s'
  | 0, j, c, hm, hc => ⟨j, Nat.le_refl _, hc⟩
  | k + 1, j, c, hm, hc => by
    rw [clsL]
    by_cases q : mxN (stepC nx c) = mxN c
    · rw [if_pos q]
      exact ⟨j, Nat.le_refl _, hc⟩
    · rw [if_neg q]
      have hlen := h.len
      obtain ⟨g1, g2⟩ := step_mx (nx := nx) (c := c) (by rw [hlen]; exact hm) (by omega)
      have hm2 := met_step (nx := nx) (c := c)
      rw [hlen] at hm2
      obtain ⟨j', e1, e2⟩ := cls_words h h0 k (j + 1) (stepC nx c) hm2 fun s s' hs hs' w => key_same h hs hs' (hc s s' hs hs' (w.mono (by omega))) fun l hl => hc _ _ ((h.at hs).2.2 _ (at1_mem (by have := (h.at hs).2.1; omega))) ((h.at hs').2.2 _ (at1_mem (by have := (h.at hs').2.1; omega))) (w.goal hl)
      exact ⟨j', by omega, e2⟩
theorem cls_wr {B : Nat} (h : Tbl S L S nx) (ho : Tbl S L B os) (h0 : 0 < S) : ∀ (w : List Nat), (∀ l ∈ w, l < L) → ∀ s s', s < S → s' < S → at1 (clsM nx os) s = at1 (clsM nx os) s' → wr nx os s w = wr nx os s' w
  | [], _, _, _, _, _, _ => rfl
  | l :: w, hl, s, s', hs, hs', e => by
    have hl0 := hl l List.mem_cons_self
    have er : RefO S os (clsM nx os) := refO_cls h _ _ (refO_numb ho.len)
    unfold wr
    rw [er _ _ hs hs' e, cls_wr h ho h0 w (fun x hx => hl x (List.mem_cons_of_mem _ hx)) _ _ ((h.at hs).2.2 _ (at1_mem (by have := (h.at hs).2.1; omega))) ((h.at hs').2.2 _ (at1_mem (by have := (h.at hs').2.1; omega))) (cls_goal h ho.len h0 hs hs' hl0 e)]
theorem same_wr (h : Tbl S L S nx) (hr : ∀ s s', s < S → s' < S → rw1 os s = rw1 os s') : ∀ (w : List Nat), (∀ l ∈ w, l < L) → ∀ s s', s < S → s' < S → wr nx os s w = wr nx os s' w
  | [], _, _, _, _, _ => rfl
  | l :: w, hl, s, s', hs, hs' => by
    have hl0 := hl l List.mem_cons_self
    unfold wr
    have g1 : at1 (rw1 nx s) l < S := (h.at hs).2.2 _ (at1_mem (by rw [(h.at hs).2.1]; exact hl0))
    have g2 : at1 (rw1 nx s') l < S := (h.at hs').2.2 _ (at1_mem (by rw [(h.at hs').2.1]; exact hl0))
    rw [hr s s' hs hs', same_wr h hr w (fun x hx => hl x (List.mem_cons_of_mem _ hx)) _ _ g1 g2]
theorem moore {B : Nat} (h : Tbl S L S nx) (ho : Tbl S L B os) (h0 : 0 < S) {p q : Nat} (hp : p < S) (hq : q < S) (e : Eqw L nx os (S - 1) p q) (w : List Nat) (hw : ∀ l ∈ w, l < L) : wr nx os p w = wr nx os q w := by
  have hm := met_numb os
  rw [ho.len] at hm
  have hlen := h.len
  by_cases c : mxN (numb os) = 0
  · refine same_wr h (fun s s' hs hs' => refO_numb ho.len s s' hs hs' ?_) w hw p q hp hq
    have z : ∀ s, s < S → at1 (numb os) s = 0 := fun s hs => by
      have := mx_ge (at1_mem (r := numb os) (l := s) (by rw [numb_len, ho.len]; exact hs))
      omega
    rw [z s hs, z s' hs']
  · obtain ⟨j', e1, e2⟩ := cls_words (os := os) h h0 nx.length 1 (numb os) hm fun s s' hs hs' w => by
      refine numb_same (by rw [ho.len]; exact hs) (by rw [ho.len]; exact hs') ?_
      have r := row_eq (ho.at hs).2.1 (ho.at hs').2.1 fun l hl => Eqw.bit (j := 0) w hl
      rwa [rw1_get (by rw [ho.len]; exact hs), rw1_get (by rw [ho.len]; exact hs')] at r
    have hm2 := cls_met (nx := nx) nx.length (numb os) (by rw [hlen]; exact hm)
    have m2 := hm2.2 (by omega)
    have m3 := uniq_len (clsL nx (numb os) nx.length)
    rw [hm2.1] at m3
    exact cls_wr h ho h0 w hw p q hp hq (e2 p q hp hq (e.mono (by omega)))
end
end Py.U
/-! A search by levels over pairs of states, with the ways to them. No program in sight. -/
namespace Py.U
abbrev P2 := Nat × Nat
/-- a found pair, the way to it, the reading that leads to it -/
abbrev Nd := P2 × Option (P2 × Nat) × List Nat
def addG (p : P2) (r : List Nat) (f : List Nd) (g : Nat × P2) : List Nd := if g.2 ∈ f.map (·.1) then f else f ++ [(g.2, some (p, g.1), r ++ [g.1])]
def stepG (f : List Nd) (n : Nd) (gs : List (Nat × P2)) : List Nd := gs.foldl (addG n.1 n.2.2) f
def bfsP (bad : P2 → Bool) (gs : P2 → List (Nat × P2)) : Nat → List Nd → Nat → Option (List Nd × Nat)
  | 0, _, _ => none
  | k + 1, f, a => match f[a]? with
    | none => none
    | some n => if bad n.1 then some (f, a) else bfsP bad gs k (stepG f n (gs n.1)) (a + 1)
theorem stepG_char (n : Nd) : ∀ (gs : List (Nat × P2)) (f : List Nd), (f.map (·.1)).Nodup → ∃ r, stepG f n gs = f ++ r ∧ ((f ++ r).map (·.1)).Nodup ∧ (∀ x ∈ r, ∃ l, (l, x.1) ∈ gs ∧ x = (x.1, some (n.1, l), n.2.2 ++ [l])) ∧ ∀ g ∈ gs, g.2 ∈ (f ++ r).map (·.1)
  | [], f, h => ⟨[], by simp [stepG], by simpa using h, by simp, by simp⟩
  | g :: gs, f, h => by
    unfold stepG
    rw [List.foldl_cons]
    by_cases c : g.2 ∈ f.map (·.1)
    · have e : addG n.1 n.2.2 f g = f := if_pos c
      rw [e]
      obtain ⟨r, h1, h2, h3, h4⟩ := stepG_char n gs f h
      refine ⟨r, h1, h2, fun x hx => ?_, fun y hy => ?_⟩
      · obtain ⟨l, a, b⟩ := h3 x hx
        exact ⟨l, List.mem_cons_of_mem _ a, b⟩
      · rcases List.mem_cons.mp hy with rfl | hy
        · rw [List.map_append]
          exact List.mem_append_left _ c
        · exact h4 y hy
    · have e : addG n.1 n.2.2 f g = f ++ [(g.2, some (n.1, g.1), n.2.2 ++ [g.1])] := if_neg c
      rw [e]
      have hn : ((f ++ [(g.2, some (n.1, g.1), n.2.2 ++ [g.1])]).map (·.1)).Nodup := by
        rw [List.map_append, List.nodup_append]
        refine ⟨h, by simp, fun a ha b hb => ?_⟩
        rw [List.map_singleton] at hb
        rw [List.mem_singleton.mp hb]
        rintro rfl
        exact c ha
      obtain ⟨r, h1, h2, h3, h4⟩ := stepG_char n gs _ hn
      refine ⟨(g.2, some (n.1, g.1), n.2.2 ++ [g.1]) :: r, ?_, ?_, fun x hx => ?_, fun y hy => ?_⟩
      · refine h1.trans ?_
        rw [List.append_assoc]
        rfl
      · rw [List.append_assoc] at h2
        exact h2
      · rcases List.mem_cons.mp hx with rfl | hx
        · exact ⟨g.1, List.mem_cons_self, rfl⟩
        · obtain ⟨l, a, b⟩ := h3 x hx
          exact ⟨l, List.mem_cons_of_mem _ a, b⟩
      · rcases List.mem_cons.mp hy with rfl | hy
        · simp
        · have := h4 y hy
          rw [List.append_assoc] at this
          exact this
structure Wf (gs : P2 → List (Nat × P2)) (b : P2) (f : List Nd) (a : Nat) : Prop where
  nd : (f.map (·.1)).Nodup
  hd : f[0]? = some (b, none, [])
  par : ∀ (j : Nat) (n : Nd), f[j]? = some n → j = 0 ∨ ∃ (i : Nat) (m : Nd) (l : Nat), i < j ∧ i < a ∧ f[i]? = some m ∧ n = (n.1, some (m.1, l), m.2.2 ++ [l]) ∧ (l, n.1) ∈ gs m.1
  clo : ∀ (i : Nat) (n : Nd), i < a → f[i]? = some n → ∀ g ∈ gs n.1, ∃ (j : Nat) (m : Nd), f[j]? = some m ∧ m.1 = g.2 ∧ m.2.2.length ≤ n.2.2.length + 1
  mono : ∀ (i j : Nat) (m n : Nd), i ≤ j → f[i]? = some m → f[j]? = some n → m.2.2.length ≤ n.2.2.length
  top : ∀ (i : Nat) (n m : Nd), f[a]? = some n → f[i]? = some m → m.2.2.length ≤ n.2.2.length + 1
theorem wf_0 (gs : P2 → List (Nat × P2)) (b : P2) : Wf gs b [(b, none, [])] 0 := by
  have one : ∀ (j : Nat) (n : Nd), [((b, none, []) : Nd)][j]? = some n → j = 0 ∧ n = (b, none, []) := fun j n h => by
    cases j with
    | zero => exact ⟨rfl, (Option.some.inj h).symm⟩
    | succ j => simp at h
  refine ⟨by simp, rfl, fun j n h => .inl (one j n h).1, fun i n h => absurd h (Nat.not_lt_zero _), fun i j m n _ h1 h2 => ?_, fun i n m h1 h2 => ?_⟩
  · rw [(one i m h1).2]
    exact Nat.zero_le _
  · rw [(one i m h2).2]
    exact Nat.zero_le _
theorem Wf.step {gs : P2 → List (Nat × P2)} {b : P2} {f : List Nd} {a : Nat} (h : Wf gs b f a) {n : Nd} (hn : f[a]? = some n) : Wf gs b (stepG f n (gs n.1)) (a + 1) := by
  obtain ⟨r, e, h2, h3, h4⟩ := stepG_char n (gs n.1) f h.nd
  rw [e]
  have ha : a < f.length := (List.getElem?_eq_some_iff.mp hn).1
  have old : ∀ (j : Nat) (m : Nd), (f ++ r)[j]? = some m → (j < f.length ∧ f[j]? = some m) ∨ (f.length ≤ j ∧ m ∈ r ∧ m.2.2.length = n.2.2.length + 1) := fun j m hm => by
    by_cases c : j < f.length
    · rw [List.getElem?_append_left c] at hm
      exact .inl ⟨c, hm⟩
    · rw [List.getElem?_append_right (by omega)] at hm
      have hr := List.mem_of_getElem? hm
      obtain ⟨l, _, q⟩ := h3 m hr
      refine .inr ⟨by omega, hr, ?_⟩
      rw [q]
      simp
  have new : ∀ {j : Nat} {m : Nd}, f[j]? = some m → (f ++ r)[j]? = some m := fun {j m} hm => by
    rw [List.getElem?_append_left (List.getElem?_eq_some_iff.mp hm).1]
    exact hm
  have all : ∀ (j : Nat) (m : Nd), (f ++ r)[j]? = some m → m.2.2.length ≤ n.2.2.length + 1 := fun j m hm => by
    rcases old j m hm with ⟨_, q⟩ | ⟨_, _, q⟩
    · exact h.top j n m hn q
    · omega
  refine ⟨h2, new h.hd, fun j m hm => ?_, fun i m hi hm g hg => ?_, fun i j m m' hij hm hm' => ?_, fun i m m' hm hm' => ?_⟩
  · rcases old j m hm with ⟨_, q⟩ | ⟨q1, q2, _⟩
    · rcases h.par j m q with q | ⟨i, m', l, i1, i2, i3, i4, i5⟩
      · exact .inl q
      · exact .inr ⟨i, m', l, i1, by omega, new i3, i4, i5⟩
    · obtain ⟨l, x1, x2⟩ := h3 m q2
      exact .inr ⟨a, n, l, by omega, by omega, new hn, x2, x1⟩
  · by_cases c : i = a
    · subst c
      have e2 : m = n := Option.some.inj (hm.symm.trans (new hn))
      subst e2
      obtain ⟨m', x1, x2⟩ := List.mem_map.mp (h4 g hg)
      obtain ⟨j, hj, rfl⟩ := List.mem_iff_getElem.mp x1
      exact ⟨j, _, List.getElem?_eq_getElem hj, x2, all j _ (List.getElem?_eq_getElem hj)⟩
    · have hi2 : i < a := by omega
      rcases old i m hm with ⟨_, q⟩ | ⟨q, _⟩
      · obtain ⟨j, m', x1, x2, x3⟩ := h.clo i m hi2 q g hg
        exact ⟨j, m', new x1, x2, x3⟩
      · omega
  · rcases old i m hm with ⟨_, q⟩ | ⟨q, _, q3⟩
    · rcases old j m' hm' with ⟨_, q'⟩ | ⟨_, _, q'⟩
      · exact h.mono i j m m' hij q q'
      · have := h.top i n m hn q
        omega
    · rcases old j m' hm' with ⟨q', _⟩ | ⟨_, _, q'⟩
      · omega
      · omega
  · have l1 := all i m' hm'
    have : n.2.2.length ≤ m.2.2.length := by
      rcases old (a + 1) m hm with ⟨_, q⟩ | ⟨_, _, q⟩
      · exact h.mono a (a + 1) n m (by omega) hn q
      · omega
    omega
/-! ### readings lead to the pairs -/
section
variable {L : Nat} {nx1 os1 nx2 os2 : List (List Nat)}
def stW (nx : List (List Nat)) (s : Nat) (w : List Nat) : Nat := w.foldl (fun s l => at1 (rw1 nx s) l) s
theorem stW_snoc (nx : List (List Nat)) (s : Nat) (w : List Nat) (l : Nat) : stW nx s (w ++ [l]) = at1 (rw1 nx (stW nx s w)) l := by
  unfold stW
  rw [List.foldl_append]
  rfl
theorem wr_snoc (nx os : List (List Nat)) : ∀ (w : List Nat) (s l : Nat), wr nx os s (w ++ [l]) = wr nx os s w ++ [at1 (rw1 os (stW nx s w)) l]
  | [], s, l => rfl
  | x :: w, s, l => by
    rw [List.cons_append]
    unfold wr
    rw [wr_snoc nx os w]
    rfl
def runP (nx1 nx2 : List (List Nat)) (b : P2) (w : List Nat) : P2 := (stW nx1 b.1 w, stW nx2 b.2 w)
def gsP (L : Nat) (nx1 nx2 : List (List Nat)) (p : P2) : List (Nat × P2) := (List.range L).map fun l => (l, (at1 (rw1 nx1 p.1) l, at1 (rw1 nx2 p.2) l))
def badP (os1 os2 : List (List Nat)) (p : P2) : Bool := decide (rw1 os1 p.1 ≠ rw1 os2 p.2)
theorem mem_gsP {p g : P2} {l : Nat} : (l, g) ∈ gsP L nx1 nx2 p ↔ l < L ∧ g = (at1 (rw1 nx1 p.1) l, at1 (rw1 nx2 p.2) l) := by
  unfold gsP
  constructor
  · intro h
    obtain ⟨x, hx, e⟩ := List.mem_map.mp h
    have := List.mem_range.mp hx
    cases e
    exact ⟨this, rfl⟩
  · rintro ⟨h, rfl⟩
    exact List.mem_map.mpr ⟨l, List.mem_range.mpr h, rfl⟩
theorem Wf.lead {b : P2} {f : List Nd} {a : Nat} (h : Wf (gsP L nx1 nx2) b f a) : ∀ (j : Nat) (n : Nd), f[j]? = some n → runP nx1 nx2 b n.2.2 = n.1 ∧ ∀ l ∈ n.2.2, l < L := by
  intro j
  induction j using Nat.strongRecOn with
  | ind j ih =>
    intro n hn
    rcases h.par j n hn with rfl | ⟨i, m, l, i1, i2, i3, i4, i5⟩
    · have := Option.some.inj (hn.symm.trans h.hd)
      subst this
      exact ⟨rfl, by simp⟩
    · obtain ⟨q1, q2⟩ := ih i i1 m i3
      obtain ⟨g1, g2⟩ := mem_gsP.mp i5
      have er : n.2.2 = m.2.2 ++ [l] := by rw [i4]
      rw [er]
      refine ⟨?_, fun x hx => ?_⟩
      · rw [g2]
        unfold runP at q1 ⊢
        rw [stW_snoc, stW_snoc, ← q1]
      · rcases List.mem_append.mp hx with c | c
        · exact q2 x c
        · rw [List.mem_singleton.mp c]
          exact g1
theorem Wf.near {b : P2} {f : List Nd} {a : Nat} (h : Wf (gsP L nx1 nx2) b f a) {na : Nd} (hna : f[a]? = some na) : ∀ (k : Nat) (w : List Nat), w.length = k → (∀ l ∈ w, l < L) → w.length < na.2.2.length → ∃ (i : Nat) (n : Nd), i < a ∧ f[i]? = some n ∧ n.1 = runP nx1 nx2 b w ∧ n.2.2.length ≤ w.length := by
  have low : ∀ (i : Nat) (n : Nd), f[i]? = some n → n.2.2.length < na.2.2.length → i < a := fun i n hi hl => by
    by_cases c : i < a
    · exact c
    · have := h.mono a i na n (by omega) hna hi
      omega
  intro k
  induction k with
  | zero =>
    intro w hw _ hl
    have : w = [] := List.eq_nil_of_length_eq_zero hw
    subst this
    exact ⟨0, _, low 0 _ h.hd hl, h.hd, rfl, Nat.le_refl _⟩
  | succ k ih =>
    intro w hw hwl hl
    have hne : w ≠ [] := fun e => by rw [e] at hw; cases hw
    have ew : w = w.dropLast ++ [w.getLast hne] := (List.dropLast_concat_getLast hne).symm
    generalize w.dropLast = w' at ew
    generalize w.getLast hne = l at ew
    subst ew
    have lw : w'.length = k := by simpa using hw
    obtain ⟨i, n, h1, h2, h3, h4⟩ := ih w' lw (fun x hx => hwl x (List.mem_append_left _ hx)) (by simp at hl; omega)
    obtain ⟨j, m, g1, g2, g3⟩ := h.clo i n h1 h2 (l, (at1 (rw1 nx1 n.1.1) l, at1 (rw1 nx2 n.1.2) l)) (mem_gsP.mpr ⟨hwl l (by simp), rfl⟩)
    have hl2 : m.2.2.length ≤ (w' ++ [l]).length := by simp; omega
    refine ⟨j, m, low j m g1 (by omega), g1, ?_, hl2⟩
    rw [g2, h3]
    unfold runP
    rw [stW_snoc, stW_snoc]
/-- no shorter word is written unlike -/
theorem Wf.least {b : P2} {f : List Nd} {a : Nat} (h : Wf (gsP L nx1 nx2) b f a) {na : Nd} (hna : f[a]? = some na) (hg : ∀ (i : Nat) (n : Nd), i < a → f[i]? = some n → rw1 os1 n.1.1 = rw1 os2 n.1.2) : ∀ (k : Nat) (w : List Nat), w.length = k → (∀ l ∈ w, l < L) → w.length ≤ na.2.2.length → wr nx1 os1 b.1 w = wr nx2 os2 b.2 w := by
  intro k
  induction k with
  | zero =>
    intro w hw _ _
    have : w = [] := List.eq_nil_of_length_eq_zero hw
    subst this
    rfl
  | succ k ih =>
    intro w hw hwl hl
    have hne : w ≠ [] := fun e => by rw [e] at hw; cases hw
    have ew : w = w.dropLast ++ [w.getLast hne] := (List.dropLast_concat_getLast hne).symm
    generalize w.dropLast = w' at ew
    generalize w.getLast hne = l at ew
    subst ew
    have lw : w'.length = k := by simpa using hw
    have hwl' : ∀ x ∈ w', x < L := fun x hx => hwl x (List.mem_append_left _ hx)
    rw [wr_snoc, wr_snoc, ih w' lw hwl' (by simp at hl; omega)]
    obtain ⟨i, n, h1, h2, h3, _⟩ := h.near hna k w' lw hwl' (by simp at hl; omega)
    have e := hg i n h1 h2
    rw [h3] at e
    unfold runP at e
    rw [e]
end
end Py.U
/-! The two searches over pairs find the same. -/
namespace Py.U
def resP (r : Option (List Nd × Nat)) : Option Nd := r.bind fun x => x.1[x.2]?
section
variable {bad ok : P2 → Bool} {gs : P2 → List (Nat × P2)}
/-- what a search finds -/
theorem bfs_found {b : P2} : ∀ (k : Nat) (f : List Nd) (a : Nat), Wf gs b f a → (∀ (i : Nat) (n : Nd), i < a → f[i]? = some n → bad n.1 = false) → ∀ F A, bfsP bad gs k f a = some (F, A) → Wf gs b F A ∧ (∀ (i : Nat) (n : Nd), i < A → F[i]? = some n → bad n.1 = false) ∧ ∃ n, F[A]? = some n ∧ bad n.1 = true
  | 0, f, a, _, _, F, A, h => by cases h
  | k + 1, f, a, hw, hg, F, A, h => by
    rw [bfsP] at h
    cases hfa : f[a]? with
    | none =>
      rw [hfa] at h
      cases h
    | some n =>
      rw [hfa] at h
      dsimp only at h
      by_cases c : bad n.1 = true
      · rw [if_pos c] at h
        cases h
        exact ⟨hw, hg, n, hfa, c⟩
      · rw [if_neg c] at h
        refine bfs_found k _ (a + 1) (hw.step hfa) (fun i m hi hm => ?_) F A h
        obtain ⟨r, hr, _⟩ := stepG_char n (gs n.1) f hw.nd
        have ha := (List.getElem?_eq_some_iff.mp hfa).1
        rw [hr, List.getElem?_append_left (by omega)] at hm
        by_cases e : i = a
        · subst e
          rw [hfa] at hm
          cases hm
          simpa using c
        · exact hg i m (by omega) hm
end
end Py.U
/-! The first reading by which two states are apart. -/
namespace Py.U
section
variable {S1 S2 L B : Nat} {nx1 os1 nx2 os2 : List (List Nat)}
theorem stW_lt {S : Nat} {nx : List (List Nat)} (h : Tbl S L S nx) : ∀ (w : List Nat) (s : Nat), s < S → (∀ l ∈ w, l < L) → stW nx s w < S
  | [], s, hs, _ => hs
  | l :: w, s, hs, hl => stW_lt h w (at1 (rw1 nx s) l) ((h.at hs).2.2 _ (at1_mem (by rw [(h.at hs).2.1]; exact hl l List.mem_cons_self))) fun x hx => hl x (List.mem_cons_of_mem _ hx)
theorem Wf.lt (h1 : Tbl S1 L S1 nx1) (h2 : Tbl S2 L S2 nx2) {b : P2} (hb : b.1 < S1 ∧ b.2 < S2) {f : List Nd} {a : Nat} (h : Wf (gsP L nx1 nx2) b f a) {n : Nd} (hn : n ∈ f) : n.1.1 < S1 ∧ n.1.2 < S2 := by
  obtain ⟨j, hj, rfl⟩ := List.mem_iff_getElem.mp hn
  obtain ⟨q1, q2⟩ := h.lead j _ (List.getElem?_eq_getElem hj)
  rw [← q1]
  exact ⟨stW_lt h1 _ _ hb.1 q2, stW_lt h2 _ _ hb.2 q2⟩
theorem all_pairs (S1 S2 : Nat) : ((List.range S1).flatMap fun i => (List.range S2).map fun j => (i, j)).length = S1 * S2 := by
  rw [List.length_flatMap]
  have : (List.range S1).map (fun a => ((List.range S2).map fun j => (a, j)).length) = List.replicate S1 S2 := by
    apply List.ext_getElem <;> simp
  rw [this]
  simp
theorem Wf.size (h1 : Tbl S1 L S1 nx1) (h2 : Tbl S2 L S2 nx2) {b : P2} (hb : b.1 < S1 ∧ b.2 < S2) (f : List Nd) (a : Nat) (h : Wf (gsP L nx1 nx2) b f a) : f.length ≤ S1 * S2 := by
  have q := h.nd.length_le_of_subset (l₂ := (List.range S1).flatMap fun i => (List.range S2).map fun j => (i, j)) fun p hp => by
    obtain ⟨n, hn, rfl⟩ := List.mem_map.mp hp
    obtain ⟨a1, a2⟩ := h.lt h1 h2 hb hn
    exact List.mem_flatMap.mpr ⟨n.1.1, List.mem_range.mpr a1, List.mem_map.mpr ⟨n.1.2, List.mem_range.mpr a2, rfl⟩⟩
  rw [all_pairs, List.length_map] at q
  exact q
/-- the first place at which two lines are unlike -/
def fstU (L : Nat) (r r' : List Nat) : Nat := ((List.range L).find? fun l => decide (at1 r l ≠ at1 r' l)).getD 0
theorem fstU_ok {r r' : List Nat} (h1 : r.length = L) (h2 : r'.length = L) (h : r ≠ r') : fstU L r r' < L ∧ at1 r (fstU L r r') ≠ at1 r' (fstU L r r') ∧ ∀ l, l < fstU L r r' → at1 r l = at1 r' l := by
  unfold fstU
  cases e : (List.range L).find? fun l => decide (at1 r l ≠ at1 r' l) with
  | none =>
    exact absurd (row_eq h1 h2 fun l hl => by
      have := List.find?_eq_none.mp e l (List.mem_range.mpr hl)
      simpa using this) h
  | some x =>
    have a1 := List.find?_some e
    have a2 := List.mem_of_find?_eq_some e
    refine ⟨List.mem_range.mp a2, by simpa using a1, fun l hl => ?_⟩
    have hx := List.mem_range.mp a2
    replace hl : l < x := hl
    obtain ⟨_, as, bs, e1, e2⟩ := List.find?_eq_some_iff_append.mp e
    have : l ∈ as := by
      have q1 : (List.range L)[as.length]? = some x := by rw [e1, List.getElem?_append_right (Nat.le_refl _), Nat.sub_self]; rfl
      have q2 : as.length < L := by
        have := (List.getElem?_eq_some_iff.mp q1).1
        simpa using this
      rw [List.getElem?_range q2] at q1
      have q3 : as.length = x := Option.some.inj q1
      have q4 : (List.range L)[l]? = some l := List.getElem?_range (by omega)
      rw [e1, List.getElem?_append_left (by show l < as.length; rw [q3]; exact hl)] at q4
      exact List.mem_of_getElem? q4
    have := e2 l this
    simpa using this
/-- the search over the pairs of two machines -/
def seaP (U L : Nat) (nx1 os1 nx2 os2 : List (List Nat)) (b : P2) : Option Nd := resP (bfsP (badP os1 os2) (gsP L nx1 nx2) U [(b, none, [])] 0)
def readP (L : Nat) (os1 os2 : List (List Nat)) (n : Nd) : List Nat := n.2.2 ++ [fstU L (rw1 os1 n.1.1) (rw1 os2 n.1.2)]
theorem sea_some {U : Nat} {b : P2} {n : Nd} (h : seaP U L nx1 os1 nx2 os2 b = some n) : ∃ F A, bfsP (badP os1 os2) (gsP L nx1 nx2) U [(b, none, [])] 0 = some (F, A) ∧ Wf (gsP L nx1 nx2) b F A ∧ (∀ (i : Nat) (m : Nd), i < A → F[i]? = some m → rw1 os1 m.1.1 = rw1 os2 m.1.2) ∧ F[A]? = some n ∧ rw1 os1 n.1.1 ≠ rw1 os2 n.1.2 := by
  unfold seaP resP at h
  cases e : bfsP (badP os1 os2) (gsP L nx1 nx2) U [(b, none, [])] 0 with
  | none =>
    rw [e] at h
    cases h
  | some x =>
    obtain ⟨F, A⟩ := x
    rw [e] at h
    obtain ⟨w, g, m, m1, m2⟩ := bfs_found (bad := badP os1 os2) U _ 0 (wf_0 (gsP L nx1 nx2) b) (fun i n hi => absurd hi (Nat.not_lt_zero _)) F A e
    have hm : F[A]? = some n := h
    rw [hm] at m1
    cases m1
    refine ⟨F, A, rfl, w, fun i m hi hm => ?_, hm, ?_⟩
    · have := g i m hi hm
      unfold badP at this
      simpa using this
    · unfold badP at m2
      simpa using m2
/-- the reading is shorter than the states -/
theorem sea_len {S U : Nat} {nx os : List (List Nat)} (h : Tbl S L S nx) (ho : Tbl S L B os) {b : P2} (hb : b.1 < S ∧ b.2 < S) {n : Nd} (hn : seaP U L nx os nx os b = some n) : (readP L os os n).length ≤ S - 1 := by
  obtain ⟨F, A, _, w, g, m1, m2⟩ := sea_some hn
  obtain ⟨p1, p2⟩ := w.lead A n m1
  have hm : n ∈ F := List.mem_of_getElem? m1
  obtain ⟨l1, l2⟩ := w.lt h h hb hm
  obtain ⟨u1, u2, _⟩ := fstU_ok (ho.at l1).2.1 (ho.at l2).2.1 m2
  unfold readP
  rw [List.length_append, List.length_singleton]
  by_cases c : n.2.2.length + 1 ≤ S - 1
  · exact c
  · have e : Eqw L nx os (S - 1) b.1 b.2 := fun v hv hl => w.least (os1 := os) (os2 := os) m1 g v.length v rfl hl (by omega)
    have q := moore h ho (by omega) hb.1 hb.2 e (n.2.2 ++ [fstU L (rw1 os n.1.1) (rw1 os n.1.2)]) (fun x hx => by
      rcases List.mem_append.mp hx with d | d
      · exact p2 x d
      · rw [List.mem_singleton.mp d]
        exact u1)
    rw [wr_snoc, wr_snoc] at q
    have q2 := (List.append_inj' q rfl).2
    have q3 := (List.cons.inj q2).1
    unfold runP at p1
    have e1 : stW nx b.1 n.2.2 = n.1.1 := congrArg Prod.fst p1
    have e2 : stW nx b.2 n.2.2 = n.1.2 := congrArg Prod.snd p1
    rw [e1, e2] at q3
    exact absurd q3 u2
/-! ### both exchanged -/
end
end Py.U
/-! The dict of the ways to pairs, as data. -/
namespace Py.U
def kp2 (p : P2) : D := .tup [nD p.1, nD p.2]
theorem kp2_eq (a b : P2) : eqv (kp2 a) (kp2 b) = decide (a = b) := by
  unfold kp2
  simp only [eqv, eqv.eqvL, nD_eq]
  obtain ⟨a1, a2⟩ := a
  obtain ⟨b1, b2⟩ := b
  by_cases q : a1 = b1 <;> by_cases r : a2 = b2 <;> simp [q, r]
theorem key_p2 : KeyE true kp2 := ⟨kp2_eq, fun a => by
  show hk 8 (.tup [nD a.1, nD a.2]) = true
  simp only [hk, List.all_cons, List.all_nil, hk_nD, Bool.and_self]⟩
section
variable {α β : Type} [DecidableEq α] {t : Bool} {kd : α → D}
/-- a dict from keys to values -/
def tabV (kd : α → D) (vd : β → D) (s : List (α × β)) : List (D × D) := s.map fun x => (kd x.1, vd x.2)
theorem find_tabV_no (h : KeyE t kd) (vd : β → D) (k : α) : ∀ (s : List (α × β)), k ∉ s.map (·.1) → find (kd k) (tabV kd vd s) = none
  | [], _ => rfl
  | x :: r, hk => by
    simp only [List.map_cons, List.mem_cons, not_or] at hk
    show (if eqv (kd x.1) (kd k) = true then some (vd x.2) else find (kd k) (tabV kd vd r)) = none
    rw [h.eq, decide_eq_false fun z => hk.1 z.symm, if_neg (by decide), find_tabV_no h vd k r hk.2]
theorem put_tabV (h : KeyE t kd) (vd : β → D) (k : α) (b : β) : ∀ (s : List (α × β)), k ∉ s.map (·.1) → putD (kd k) (vd b) (tabV kd vd s) = tabV kd vd (s ++ [(k, b)])
  | [], _ => rfl
  | x :: r, hk => by
    simp only [List.map_cons, List.mem_cons, not_or] at hk
    show (if eqv (kd x.1) (kd k) = true then (kd x.1, vd b) :: tabV kd vd r else (kd x.1, vd x.2) :: putD (kd k) (vd b) (tabV kd vd r)) = _
    rw [h.eq, decide_eq_false fun z => hk.1 z.symm, if_neg (by decide), put_tabV h vd k b r hk.2]
    rfl
theorem find_tabV (h : KeyE t kd) (vd : β → D) : ∀ (s : List (α × β)) (j : Nat) (x : α × β), (s.map (·.1)).Nodup → s[j]? = some x → find (kd x.1) (tabV kd vd s) = some (vd x.2)
  | [], j, x, _, hj => by simp at hj
  | y :: r, 0, x, _, hj => by
    have := Option.some.inj hj
    subst this
    show (if eqv (kd y.1) (kd y.1) = true then some (vd y.2) else _) = _
    rw [h.eq, decide_eq_true rfl, if_pos rfl]
  | y :: r, j + 1, x, hn, hj => by
    rw [List.map_cons, List.nodup_cons] at hn
    have hj2 : r[j]? = some x := hj
    have hm : x.1 ∈ r.map (·.1) := List.mem_map.mpr ⟨x, List.mem_of_getElem? hj2, rfl⟩
    have ne : ¬ y.1 = x.1 := fun e => hn.1 (by rw [e]; exact hm)
    show (if eqv (kd y.1) (kd x.1) = true then some (vd y.2) else find (kd x.1) (tabV kd vd r)) = _
    rw [h.eq, decide_eq_false ne, if_neg (by decide), find_tabV h vd r j x hn.2 hj2]
theorem find_tabV_in (h : KeyE t kd) (vd : β → D) (k : α) : ∀ (s : List (α × β)), k ∈ s.map (·.1) → (find (kd k) (tabV kd vd s)).isSome = true
  | [], hk => by cases hk
  | y :: r, hk => by
    show (if eqv (kd y.1) (kd k) = true then some (vd y.2) else find (kd k) (tabV kd vd r)).isSome = true
    rw [h.eq]
    by_cases e : y.1 = k
    · rw [decide_eq_true e, if_pos rfl]
      rfl
    · rw [decide_eq_false e, if_neg (by decide)]
      refine find_tabV_in h vd k r ?_
      rw [List.map_cons, List.mem_cons] at hk
      rcases hk with q | q
      · exact absurd q.symm e
      · exact q
theorem tabV_len (kd : α → D) (vd : β → D) (s : List (α × β)) : (tabV kd vd s).length = s.length := by simp [tabV]
end
def wayD : Option (P2 × Nat) → D
  | none => .non
  | some (p, l) => .tup [kp2 p, nD l]
/-- the program's dict of ways -/
def ways (f : List Nd) : D := .dic true (tabV kp2 (fun x : Option (P2 × Nat) × List Nat => wayD x.1) f)
theorem ways_not {f : List Nd} {g : P2} (h : g ∉ f.map (·.1)) : onotin (kp2 g) (ways f) = .ok (.bl true) := by
  unfold ways
  rw [onotin_dic (key_p2.ok g), find_tabV_no key_p2 _ g f h]
  rfl
theorem ways_has {f : List Nd} {g : P2} (h : g ∈ f.map (·.1)) : onotin (kp2 g) (ways f) = .ok (.bl false) := by
  unfold ways
  rw [onotin_dic (key_p2.ok g), find_tabV_in key_p2 _ g f h]
  rfl
theorem ways_get {f : List Nd} {j : Nat} {n : Nd} (hn : (f.map (·.1)).Nodup) (h : f[j]? = some n) : oidx (ways f) (kp2 n.1) = .ok (wayD n.2.1) := oidx_dic (key_p2.ok n.1) (find_tabV key_p2 _ f j n hn h)
theorem ways_put {i : Nat} {j m : EM} {e : Env} {f : List Nd} {g : P2} {w : Option (P2 × Nat)} {r : List Nat} (h1 : var i e = .ok (ways f)) (h2 : m e = .ok (wayD w)) (h3 : j e = .ok (kp2 g)) (hg : g ∉ f.map (·.1)) (hz : f.length < SZ) : setL i j m e = .ok (.next (e.set i (some (ways (f ++ [(g, w, r)]))))) := by
  have := setL_dic (t := true) (kvs := tabV kp2 (fun x : Option (P2 × Nat) × List Nat => wayD x.1) f) h1 h2 h3 (key_p2.ok g) (by rw [tabV_len]; exact hz)
  rw [this]
  have e2 := put_tabV key_p2 (fun x : Option (P2 × Nat) × List Nat => wayD x.1) g (w, r) f hg
  have e3 : putD (kp2 g) (wayD w) (tabV kp2 (fun x : Option (P2 × Nat) × List Nat => wayD x.1) f) = tabV kp2 (fun x : Option (P2 × Nat) × List Nat => wayD x.1) (f ++ [(g, w, r)]) := e2
  rw [e3]
  rfl
/-- the laws' dict of pairs met -/
def metD (f : List Nd) : D := .dic true (tabV kp2 (fun _ : Option (P2 × Nat) × List Nat => D.bl true) f)
theorem met_not {f : List Nd} {g : P2} (h : g ∉ f.map (·.1)) : onotin (kp2 g) (metD f) = .ok (.bl true) := by
  unfold metD
  rw [onotin_dic (key_p2.ok g), find_tabV_no key_p2 _ g f h]
  rfl
theorem met_has {f : List Nd} {g : P2} (h : g ∈ f.map (·.1)) : onotin (kp2 g) (metD f) = .ok (.bl false) := by
  unfold metD
  rw [onotin_dic (key_p2.ok g), find_tabV_in key_p2 _ g f h]
  rfl
theorem met_put {i : Nat} {j m : EM} {e : Env} {f : List Nd} {g : P2} {w : Option (P2 × Nat)} {r : List Nat} (h1 : var i e = .ok (metD f)) (h2 : m e = .ok (.bl true)) (h3 : j e = .ok (kp2 g)) (hg : g ∉ f.map (·.1)) (hz : f.length < SZ) : setL i j m e = .ok (.next (e.set i (some (metD (f ++ [(g, w, r)]))))) := by
  have := setL_dic (t := true) (kvs := tabV kp2 (fun _ : Option (P2 × Nat) × List Nat => D.bl true) f) h1 h2 h3 (key_p2.ok g) (by rw [tabV_len]; exact hz)
  rw [this]
  have e2 := put_tabV key_p2 (fun _ : Option (P2 × Nat) × List Nat => D.bl true) g (w, r) f hg
  have e3 : putD (kp2 g) (.bl true) (tabV kp2 (fun _ : Option (P2 × Nat) × List Nat => D.bl true) f) = tabV kp2 (fun _ : Option (P2 × Nat) × List Nat => D.bl true) (f ++ [(g, w, r)]) := e2
  rw [e3]
  rfl
end Py.U
/-! How long the readings found are. -/
namespace Py.U
theorem Wf.rlen {gs : P2 → List (Nat × P2)} {b : P2} {f : List Nd} {a : Nat} (h : Wf gs b f a) : ∀ (j : Nat) (n : Nd), f[j]? = some n → n.2.2.length ≤ j := by
  intro j
  induction j using Nat.strongRecOn with
  | ind j ih =>
    intro n hn
    rcases h.par j n hn with rfl | ⟨i, m, l, i1, i2, i3, i4, i5⟩
    · have := Option.some.inj (hn.symm.trans h.hd)
      subst this
      exact Nat.le_refl _
    · have er : n.2.2 = m.2.2 ++ [l] := by rw [i4]
      have := ih i i1 m i3
      rw [er, List.length_append, List.length_singleton]
      omega
section
variable {S1 S2 L B : Nat} {nx1 os1 nx2 os2 : List (List Nat)}
theorem sea_rlen (h1 : Tbl S1 L S1 nx1) (h2 : Tbl S2 L S2 nx2) {U : Nat} {b : P2} (hb : b.1 < S1 ∧ b.2 < S2) {n : Nd} (hn : seaP U L nx1 os1 nx2 os2 b = some n) : n.2.2.length < S1 * S2 := by
  obtain ⟨F, A, _, w, g, m1, m2⟩ := sea_some hn
  have := w.rlen A n m1
  have q := w.size h1 h2 hb
  have := (List.getElem?_eq_some_iff.mp m1).1
  omega
end
end Py.U
/-! The least machine's states beside what they were made of. No program in sight. -/
namespace Py.U
section
variable {α : Type} [DecidableEq α]
/-- where it stands -/
def ixF (F : List α) (q : α) : Nat := F.idxOf q
variable {succ : α → List α} {outv : α → List Nat} {F : List α} {L : Nat}
theorem ixF_at {p : α} (hp : p ∈ F) : ixF F p < F.length ∧ F[ixF F p]? = some p := by
  have h := List.idxOf_lt_length_of_mem hp
  refine ⟨h, ?_⟩
  have h' : ixF F p < F.length := h
  rw [List.getElem?_eq_getElem h']
  exact congrArg some (List.getElem_idxOf h)
theorem nx_at (hc : CldU succ F F.length) {p q : α} (hp : p ∈ F) {l : Nat} (hq : (succ p)[l]? = some q) : at1 (rw1 (F.map (cn succ F)) (ixF F p)) l = ixF F q ∧ q ∈ F := by
  obtain ⟨h1, h2⟩ := ixF_at hp
  have r2 : rw1 (F.map (cn succ F)) (ixF F p) = cn succ F p := by
    unfold rw1
    rw [List.getD_eq_getElem?_getD, List.getElem?_map, h2]
    rfl
  refine ⟨?_, hc _ p h1 h2 q (List.mem_of_getElem? hq)⟩
  rw [r2]
  unfold at1 cn
  rw [List.getD_eq_getElem?_getD, List.getElem?_map, hq]
  rfl
theorem os_at {p : α} (hp : p ∈ F) : rw1 (F.map outv) (ixF F p) = outv p := by
  obtain ⟨h1, h2⟩ := ixF_at hp
  unfold rw1
  rw [List.getD_eq_getElem?_getD, List.getElem?_map, h2]
  rfl
/-- a state of the least machine and one it stands for -/
def QQ (F : List α) (nx os : List (List Nat)) (i : Nat) (p : α) : Prop := i < (fndM nx os).length ∧ p ∈ F ∧ at1 (clsM nx os) ((fndM nx os).getD i 0) = at1 (clsM nx os) (ixF F p)
theorem QQ.inj {nx os : List (List Nat)} {S : Nat} (h : Tbl S L S nx) (ho : os.length = S) (h0 : 0 < S) {i j : Nat} {p : α} (a : QQ F nx os i p) (b : QQ F nx os j p) : i = j := by
  obtain ⟨g1, _⟩ := fndM_ok h ho h0
  have e := a.2.2.trans b.2.2.symm
  have hi' : i < (fndM nx os).length := a.1
  have hj' : j < (fndM nx os).length := b.1
  have hi : i < ((fndM nx os).map (at1 (clsM nx os))).length := by rw [List.length_map]; exact a.1
  have hj : j < ((fndM nx os).map (at1 (clsM nx os))).length := by rw [List.length_map]; exact b.1
  refine (List.getElem_inj (h₀ := hi) (h₁ := hj) g1.nd).mp ?_
  rw [List.getElem_map, List.getElem_map]
  have ei : (fndM nx os).getD i 0 = (fndM nx os)[i]'hi' := by rw [List.getD_eq_getElem?_getD, List.getElem?_eq_getElem hi']; rfl
  have ej : (fndM nx os).getD j 0 = (fndM nx os)[j]'hj' := by rw [List.getD_eq_getElem?_getD, List.getElem?_eq_getElem hj']; rfl
  rw [← ei, ← ej, e]
theorem QQ.step (hc : CldU succ F F.length) {os : List (List Nat)} (h : Tbl F.length L F.length (F.map (cn succ F))) (ho : os.length = F.length) {i l : Nat} {p q : α} (a : QQ F (F.map (cn succ F)) os i p) (hl : l < L) (hq : (succ p)[l]? = some q) : QQ F (F.map (cn succ F)) os (at1 (rw1 (lsN (F.map (cn succ F)) os) i) l) q := by
  obtain ⟨a1, a2, a3⟩ := a
  obtain ⟨h1, h2⟩ := ixF_at a2
  have h0 : 0 < F.length := by omega
  obtain ⟨b1, b2⟩ := ls_goal h ho h0 a1 hl
  obtain ⟨c1, c2⟩ := nx_at hc a2 hq
  refine ⟨b1, c2, ?_⟩
  rw [b2, cls_goal h ho h0 (fnd_lt h ho h0 a1) h1 hl a3, c1]
theorem QQ.out {nx : List (List Nat)} (h : Tbl F.length L F.length nx) {i : Nat} {p : α} (a : QQ F nx (F.map outv) i p) : rw1 (lsO nx (F.map outv)) i = outv p := by
  obtain ⟨a1, a2, a3⟩ := a
  obtain ⟨h1, h2⟩ := ixF_at a2
  have h0 : 0 < F.length := by omega
  have ho : (F.map outv).length = F.length := by simp
  have er : RefO F.length (F.map outv) (clsM nx (F.map outv)) := refO_cls h _ _ (refO_numb ho)
  have e := er _ _ (fnd_lt h ho h0 a1) h1 a3
  have e2 : rw1 (lsO nx (F.map outv)) i = rw1 (F.map outv) ((fndM nx (F.map outv)).getD i 0) := rw1_map a1
  rw [e2, e, os_at a2]
theorem QQ.all {nx os : List (List Nat)} (hn : F.Nodup) (h0 : 0 < F.length) (h : Tbl F.length L F.length nx) (ho : os.length = F.length) {i : Nat} (hi : i < (fndM nx os).length) : ∃ p, QQ F nx os i p := by
  have hlt := fnd_lt h ho h0 hi
  refine ⟨F[(fndM nx os).getD i 0], hi, List.getElem_mem hlt, ?_⟩
  have : ixF F F[(fndM nx os).getD i 0] = (fndM nx os).getD i 0 := by
    unfold ixF
    exact hn.idxOf_getElem _ hlt
  rw [this]
end
end Py.U
/-! Machines that write alike have one least machine. No program in sight. -/
namespace Py.U
section
variable {S L B : Nat} {nx os : List (List Nat)}
/-- states that write alike are of one class -/
theorem cls_of_wr (h : Tbl S L S nx) (ho : Tbl S L B os) (h0 : 0 < S) {s s' : Nat} (hs : s < S) (hs' : s' < S) (e : ∀ w : List Nat, (∀ l ∈ w, l < L) → wr nx os s w = wr nx os s' w) : at1 (clsM nx os) s = at1 (clsM nx os) s' := by
  have hm := met_numb os
  rw [ho.len] at hm
  obtain ⟨j', _, e2⟩ := cls_words (os := os) h h0 nx.length 1 (numb os) hm fun s s' hs hs' w => by
    refine numb_same (by rw [ho.len]; exact hs) (by rw [ho.len]; exact hs') ?_
    have r := row_eq (ho.at hs).2.1 (ho.at hs').2.1 fun l hl => Eqw.bit (j := 0) w hl
    rwa [rw1_get (by rw [ho.len]; exact hs), rw1_get (by rw [ho.len]; exact hs')] at r
  exact e2 s s' hs hs' fun w _ hw => e w hw
end
theorem idx_pw {C1 C2 : Nat → Nat} {x y : Nat} : ∀ (f g : List Nat), f.length = g.length → (∀ i, i < f.length → (C1 (f.getD i 0) = x ↔ C2 (g.getD i 0) = y)) → (f.map C1).idxOf x = (g.map C2).idxOf y
  | [], [], _, _ => rfl
  | a :: f, [], h, _ => by simp at h
  | [], b :: g, h, _ => by simp at h
  | a :: f, b :: g, h, e => by
    have e0 := e 0 (by simp)
    have ih := idx_pw f g (by simpa using h) fun i hi => by
      have := e (i + 1) (by simpa using hi)
      simpa using this
    simp only [List.getD_cons_zero] at e0
    simp only [List.map_cons, List.idxOf_cons]
    by_cases c : C1 a = x
    · have d := e0.mp c
      simp [c, d]
    · have d : ¬ C2 b = y := fun z => c (e0.mpr z)
      have c' : (C1 a == x) = false := by simpa using c
      have d' : (C2 b == y) = false := by simpa using d
      rw [c', d']
      simp [ih]
section
variable {S1 S2 L B : Nat} {nx1 os1 nx2 os2 : List (List Nat)}
/-- all words are written alike -/
def WW (L : Nat) (nx1 os1 nx2 os2 : List (List Nat)) (s t : Nat) : Prop := ∀ w : List Nat, (∀ l ∈ w, l < L) → wr nx1 os1 s w = wr nx2 os2 t w
theorem WW.goal {s t l : Nat} (h : WW L nx1 os1 nx2 os2 s t) (hl : l < L) : WW L nx1 os1 nx2 os2 (at1 (rw1 nx1 s) l) (at1 (rw1 nx2 t) l) := fun w hw => by
  have q := h (l :: w) (fun x hx => by
    rcases List.mem_cons.mp hx with rfl | hx
    · exact hl
    · exact hw x hx)
  unfold wr at q
  exact (List.cons.inj q).2
theorem WW.bit {s t l : Nat} (h : WW L nx1 os1 nx2 os2 s t) (hl : l < L) : at1 (rw1 os1 s) l = at1 (rw1 os2 t) l := by
  have q := h [l] (fun x hx => by rw [List.mem_singleton.mp hx]; exact hl)
  unfold wr at q
  exact (List.cons.inj q).1
theorem WW.row (o1 : Tbl S1 L B os1) (o2 : Tbl S2 L B os2) {s t : Nat} (hs : s < S1) (ht : t < S2) (h : WW L nx1 os1 nx2 os2 s t) : rw1 os1 s = rw1 os2 t := row_eq (o1.at hs).2.1 (o2.at ht).2.1 fun l hl => h.bit hl
theorem WW.cls (h1 : Tbl S1 L S1 nx1) (h2 : Tbl S2 L S2 nx2) (o1 : Tbl S1 L B os1) (o2 : Tbl S2 L B os2) {s s' t t' : Nat} (hs : s < S1) (hs' : s' < S1) (ht : t < S2) (ht' : t' < S2) (h : WW L nx1 os1 nx2 os2 s t) (h' : WW L nx1 os1 nx2 os2 s' t') : at1 (clsM nx1 os1) s = at1 (clsM nx1 os1) s' ↔ at1 (clsM nx2 os2) t = at1 (clsM nx2 os2) t' :=
  ⟨fun e => cls_of_wr h2 o2 (by omega) ht ht' fun w hw => by rw [← h w hw, ← h' w hw, cls_wr h1 o1 (by omega) w hw s s' hs hs' e],
   fun e => cls_of_wr h1 o1 (by omega) hs hs' fun w hw => by rw [h w hw, h' w hw, cls_wr h2 o2 (by omega) w hw t t' ht ht' e]⟩
/-- two lists of states, place by place -/
structure PW (S1 S2 L : Nat) (nx1 os1 nx2 os2 : List (List Nat)) (f g : List Nat) : Prop where
  len : f.length = g.length
  lt1 : ∀ s ∈ f, s < S1
  lt2 : ∀ t ∈ g, t < S2
  ww : ∀ i, i < f.length → WW L nx1 os1 nx2 os2 (f.getD i 0) (g.getD i 0)
theorem getD_mem {f : List Nat} {i : Nat} (h : i < f.length) : f.getD i 0 ∈ f := by
  rw [List.getD_eq_getElem?_getD, List.getElem?_eq_getElem h]
  exact List.getElem_mem h
theorem PW.idx (h1 : Tbl S1 L S1 nx1) (h2 : Tbl S2 L S2 nx2) (o1 : Tbl S1 L B os1) (o2 : Tbl S2 L B os2) {f g : List Nat} (p : PW S1 S2 L nx1 os1 nx2 os2 f g) {s t : Nat} (hs : s < S1) (ht : t < S2) (h : WW L nx1 os1 nx2 os2 s t) : (f.map (at1 (clsM nx1 os1))).idxOf (at1 (clsM nx1 os1) s) = (g.map (at1 (clsM nx2 os2))).idxOf (at1 (clsM nx2 os2) t) :=
  idx_pw f g p.len fun i hi => WW.cls h1 h2 o1 o2 (p.lt1 _ (getD_mem hi)) hs (p.lt2 _ (getD_mem (by rw [← p.len]; exact hi))) ht (p.ww i hi) h
theorem PW.step (h1 : Tbl S1 L S1 nx1) (h2 : Tbl S2 L S2 nx2) (o1 : Tbl S1 L B os1) (o2 : Tbl S2 L B os2) {f g : List Nat} (p : PW S1 S2 L nx1 os1 nx2 os2 f g) {s t : Nat} (hs : s < S1) (ht : t < S2) (h : WW L nx1 os1 nx2 os2 s t) : PW S1 S2 L nx1 os1 nx2 os2 (stepT (at1 (clsM nx1 os1)) f s) (stepT (at1 (clsM nx2 os2)) g t) := by
  have e := p.idx h1 h2 o1 o2 hs ht h
  have i1 : at1 (clsM nx1 os1) s ∈ f.map (at1 (clsM nx1 os1)) ↔ at1 (clsM nx2 os2) t ∈ g.map (at1 (clsM nx2 os2)) := by
    rw [← List.idxOf_lt_length_iff, ← List.idxOf_lt_length_iff, e, List.length_map, List.length_map, p.len]
  unfold stepT
  by_cases c : at1 (clsM nx1 os1) s ∈ f.map (at1 (clsM nx1 os1))
  · rw [if_pos c, if_pos (i1.mp c)]
    exact p
  · rw [if_neg c, if_neg fun z => c (i1.mpr z)]
    refine ⟨by simp [p.len], fun x hx => ?_, fun x hx => ?_, fun i hi => ?_⟩
    · rcases List.mem_append.mp hx with q | q
      · exact p.lt1 x q
      · rw [List.mem_singleton.mp q]; exact hs
    · rcases List.mem_append.mp hx with q | q
      · exact p.lt2 x q
      · rw [List.mem_singleton.mp q]; exact ht
    · by_cases q : i < f.length
      · rw [getD_pre q, getD_pre (by rw [← p.len]; exact q)]
        exact p.ww i q
      · have ei : i = f.length := by simp at hi; omega
        have e1 : (f ++ [s]).getD i 0 = s := by
          rw [List.getD_eq_getElem?_getD, List.getElem?_append_right (by omega), ei, Nat.sub_self]
          rfl
        have e2 : (g ++ [t]).getD i 0 = t := by
          rw [List.getD_eq_getElem?_getD, List.getElem?_append_right (by rw [← p.len]; omega), ei, p.len, Nat.sub_self]
          rfl
        rw [e1, e2]
        exact h
theorem PW.fold (h1 : Tbl S1 L S1 nx1) (h2 : Tbl S2 L S2 nx2) (o1 : Tbl S1 L B os1) (o2 : Tbl S2 L B os2) : ∀ (ts us f g : List Nat), PW S1 S2 L nx1 os1 nx2 os2 ts us → PW S1 S2 L nx1 os1 nx2 os2 f g → PW S1 S2 L nx1 os1 nx2 os2 (ts.foldl (stepT (at1 (clsM nx1 os1))) f) (us.foldl (stepT (at1 (clsM nx2 os2))) g)
  | [], [], _, _, _, p => p
  | a :: ts, [], _, _, h, _ => by have := h.len; simp at this
  | [], b :: us, _, _, h, _ => by have := h.len; simp at this
  | a :: ts, b :: us, f, g, h, p => by
    have w0 := h.ww 0 (by simp)
    simp only [List.getD_cons_zero] at w0
    have pt : PW S1 S2 L nx1 os1 nx2 os2 ts us := ⟨by simpa using h.len, fun s hs => h.lt1 s (List.mem_cons_of_mem _ hs), fun t ht => h.lt2 t (List.mem_cons_of_mem _ ht), fun i hi => by
      have := h.ww (i + 1) (by simpa using hi)
      simpa using this⟩
    exact PW.fold h1 h2 o1 o2 ts us _ _ pt (p.step h1 h2 o1 o2 (h.lt1 a List.mem_cons_self) (h.lt2 b List.mem_cons_self) w0)
theorem PW.rows (h1 : Tbl S1 L S1 nx1) (h2 : Tbl S2 L S2 nx2) {s t : Nat} (hs : s < S1) (ht : t < S2) (h : WW L nx1 os1 nx2 os2 s t) : PW S1 S2 L nx1 os1 nx2 os2 (nx1.getD s []) (nx2.getD t []) := by
  obtain ⟨_, a2, a3⟩ := h1.at hs
  obtain ⟨_, b2, b3⟩ := h2.at ht
  unfold rw1 at a2 a3 b2 b3
  refine ⟨by rw [a2, b2], a3, b3, fun i hi => ?_⟩
  rw [a2] at hi
  exact h.goal hi
theorem PW.bfs (h1 : Tbl S1 L S1 nx1) (h2 : Tbl S2 L S2 nx2) (o1 : Tbl S1 L B os1) (o2 : Tbl S2 L B os2) : ∀ (k : Nat) (f g : List Nat) (a : Nat), PW S1 S2 L nx1 os1 nx2 os2 f g → PW S1 S2 L nx1 os1 nx2 os2 (bfsL (at1 (clsM nx1 os1)) nx1 k f a) (bfsL (at1 (clsM nx2 os2)) nx2 k g a)
  | 0, f, g, a, p => p
  | k + 1, f, g, a, p => by
    rw [bfsL, bfsL, ← p.len]
    by_cases c : a < f.length
    · rw [if_pos c, if_pos c]
      have hs := p.lt1 _ (getD_mem c)
      have ht := p.lt2 _ (getD_mem (f := g) (i := a) (by rw [← p.len]; exact c))
      exact PW.bfs h1 h2 o1 o2 k _ _ (a + 1) (PW.fold h1 h2 o1 o2 _ _ _ _ (PW.rows h1 h2 hs ht (p.ww a c)) p)
    · rw [if_neg c, if_neg c]
      exact p
theorem fnd_pw (h1 : Tbl S1 L S1 nx1) (h2 : Tbl S2 L S2 nx2) (o1 : Tbl S1 L B os1) (o2 : Tbl S2 L B os2) (p1 : 0 < S1) (p2 : 0 < S2) (h : WW L nx1 os1 nx2 os2 0 0) : PW S1 S2 L nx1 os1 nx2 os2 (fndM nx1 os1) (fndM nx2 os2) := by
  have c1 := (clsM_lt h1 o1.len p1).2
  have c2 := (clsM_lt h2 o2.len p2).2
  have e1 : fndM nx1 os1 = bfsL (at1 (clsM nx1 os1)) nx1 (S1 + S2) [0] 0 := by
    unfold fndM
    rw [h1.len]
    exact bfs_more (n := S1) (fun s hs t ht => (h1.at hs).2.2 t ht) c1 (fnd_0 p1) S2
  have e2 : fndM nx2 os2 = bfsL (at1 (clsM nx2 os2)) nx2 (S1 + S2) [0] 0 := by
    unfold fndM
    rw [h2.len, Nat.add_comm]
    exact bfs_more (n := S2) (fun s hs t ht => (h2.at hs).2.2 t ht) c2 (fnd_0 p2) S1
  rw [e1, e2]
  refine PW.bfs h1 h2 o1 o2 _ _ _ _ ⟨rfl, fun s hs => by rw [List.mem_singleton.mp hs]; exact p1, fun s hs => by rw [List.mem_singleton.mp hs]; exact p2, fun i hi => ?_⟩
  have : i = 0 := by simp at hi; omega
  subst this
  exact h
/-- one least machine -/
theorem ls_same (h1 : Tbl S1 L S1 nx1) (h2 : Tbl S2 L S2 nx2) (o1 : Tbl S1 L B os1) (o2 : Tbl S2 L B os2) (p1 : 0 < S1) (p2 : 0 < S2) (h : WW L nx1 os1 nx2 os2 0 0) : lsN nx1 os1 = lsN nx2 os2 ∧ lsO nx1 os1 = lsO nx2 os2 := by
  have p := fnd_pw h1 h2 o1 o2 p1 p2 h
  have gd : ∀ {f : List Nat} {i : Nat} (hi : i < f.length), f[i] = f.getD i 0 := fun hi => by
    rw [List.getD_eq_getElem?_getD, List.getElem?_eq_getElem hi]
    rfl
  constructor
  · unfold lsN
    apply List.ext_getElem
    · simp [p.len]
    · intro i a b
      have hi : i < (fndM nx1 os1).length := by simpa using a
      have hi2 : i < (fndM nx2 os2).length := by simpa using b
      rw [List.getElem_map, List.getElem_map, gd hi, gd hi2]
      have q := PW.rows h1 h2 (p.lt1 _ (getD_mem hi)) (p.lt2 _ (getD_mem hi2)) (p.ww i hi)
      unfold rowN
      apply List.ext_getElem
      · rw [List.length_map, List.length_map]
        exact q.len
      · intro l c d
        have hl : l < (nx1.getD ((fndM nx1 os1).getD i 0) []).length := by simpa using c
        have hl2 : l < (nx2.getD ((fndM nx2 os2).getD i 0) []).length := by simpa using d
        rw [List.getElem_map, List.getElem_map, gd hl, gd hl2]
        exact p.idx h1 h2 o1 o2 (q.lt1 _ (getD_mem hl)) (q.lt2 _ (getD_mem hl2)) (q.ww l hl)
  · unfold lsO
    apply List.ext_getElem
    · simp [p.len]
    · intro i a b
      have hi : i < (fndM nx1 os1).length := by simpa using a
      have hi2 : i < (fndM nx2 os2).length := by simpa using b
      rw [List.getElem_map, List.getElem_map, gd hi, gd hi2]
      exact WW.row o1 o2 (p.lt1 _ (getD_mem hi)) (p.lt2 _ (getD_mem hi2)) (p.ww i hi)
theorem ls_ww (h1 : Tbl S1 L S1 nx1) (h2 : Tbl S2 L S2 nx2) (o1 : Tbl S1 L B os1) (o2 : Tbl S2 L B os2) (p1 : 0 < S1) (p2 : 0 < S2) (e : lsN nx1 os1 = lsN nx2 os2) (e2 : lsO nx1 os1 = lsO nx2 os2) : WW L nx1 os1 nx2 os2 0 0 := fun w hw => by
  rw [← ls_wr0 h1 o1 p1 hw, ← ls_wr0 h2 o2 p2 hw, e, e2]
end
end Py.U
/-! The first reading written unlike, and its length. No program in sight. -/
namespace Py.U
section
variable {S1 S2 L B : Nat} {nx1 os1 nx2 os2 : List (List Nat)}
theorem bfs_none (h1 : Tbl S1 L S1 nx1) (h2 : Tbl S2 L S2 nx2) {b : P2} (hb : b.1 < S1 ∧ b.2 < S2) : ∀ (k : Nat) (f : List Nd) (a : Nat), Wf (gsP L nx1 nx2) b f a → (∀ (i : Nat) (n : Nd), i < a → f[i]? = some n → rw1 os1 n.1.1 = rw1 os2 n.1.2) → S1 * S2 ≤ a + k → bfsP (badP os1 os2) (gsP L nx1 nx2) k f a = none → ∀ w : List Nat, (∀ l ∈ w, l < L) → rw1 os1 (runP nx1 nx2 b w).1 = rw1 os2 (runP nx1 nx2 b w).2 := by
  have stop : ∀ (f : List Nd) (a : Nat), Wf (gsP L nx1 nx2) b f a → (∀ (i : Nat) (n : Nd), i < a → f[i]? = some n → rw1 os1 n.1.1 = rw1 os2 n.1.2) → f.length ≤ a → ∀ w : List Nat, (∀ l ∈ w, l < L) → rw1 os1 (runP nx1 nx2 b w).1 = rw1 os2 (runP nx1 nx2 b w).2 := fun f a hw hg ha w hl => by
    have key : ∀ (j : Nat) (w : List Nat), w.length = j → (∀ l ∈ w, l < L) → ∃ (i : Nat) (n : Nd), f[i]? = some n ∧ n.1 = runP nx1 nx2 b w := fun j => by
      induction j with
      | zero =>
        intro w hw0 _
        have : w = [] := List.eq_nil_of_length_eq_zero hw0
        subst this
        exact ⟨0, _, hw.hd, rfl⟩
      | succ j ih =>
        intro w hw0 hl
        have hne : w ≠ [] := fun e => by rw [e] at hw0; cases hw0
        have ew : w = w.dropLast ++ [w.getLast hne] := (List.dropLast_concat_getLast hne).symm
        generalize w.dropLast = w' at ew
        generalize w.getLast hne = l at ew
        subst ew
        obtain ⟨i, n, g1, g2⟩ := ih w' (by simpa using hw0) fun x hx => hl x (List.mem_append_left _ hx)
        have hi : i < f.length := (List.getElem?_eq_some_iff.mp g1).1
        obtain ⟨i', m, g3, g4, _⟩ := hw.clo i n (by omega) g1 (l, (at1 (rw1 nx1 n.1.1) l, at1 (rw1 nx2 n.1.2) l)) (mem_gsP.mpr ⟨hl l (by simp), rfl⟩)
        refine ⟨i', m, g3, ?_⟩
        rw [g4, g2]
        unfold runP
        rw [stW_snoc, stW_snoc]
    obtain ⟨i, n, g1, g2⟩ := key w.length w rfl hl
    have hi : i < f.length := (List.getElem?_eq_some_iff.mp g1).1
    have := hg i n (by omega) g1
    rw [g2] at this
    exact this
  intro k
  induction k with
  | zero =>
    intro f a hw hg hk _
    have := hw.size h1 h2 hb
    exact stop f a hw hg (by omega)
  | succ k ih =>
    intro f a hw hg hk hn
    rw [bfsP] at hn
    cases hfa : f[a]? with
    | none =>
      refine stop f a hw hg ?_
      by_cases c : a < f.length
      · rw [List.getElem?_eq_getElem c] at hfa
        cases hfa
      · omega
    | some n =>
      rw [hfa] at hn
      dsimp only at hn
      by_cases c : badP os1 os2 n.1 = true
      · rw [if_pos c] at hn
        cases hn
      · rw [if_neg c] at hn
        have hc : rw1 os1 n.1.1 = rw1 os2 n.1.2 := by
          unfold badP at c
          simpa using c
        refine ih _ (a + 1) (hw.step hfa) (fun i m hi hm => ?_) (by omega) hn
        obtain ⟨r, hr, _⟩ := stepG_char n (gsP L nx1 nx2 n.1) f hw.nd
        rw [hr] at hm
        have hal := (List.getElem?_eq_some_iff.mp hfa).1
        rw [List.getElem?_append_left (by omega)] at hm
        by_cases q : i = a
        · subst q
          rw [hfa] at hm
          cases hm
          exact hc
        · exact hg i m (by omega) hm
theorem ww_of_rows {b : P2} (h : ∀ w : List Nat, (∀ l ∈ w, l < L) → rw1 os1 (runP nx1 nx2 b w).1 = rw1 os2 (runP nx1 nx2 b w).2) : WW L nx1 os1 nx2 os2 b.1 b.2 := by
  have key : ∀ (j : Nat) (w : List Nat), w.length = j → (∀ l ∈ w, l < L) → wr nx1 os1 b.1 w = wr nx2 os2 b.2 w := fun j => by
    induction j with
    | zero =>
      intro w hw0 _
      have : w = [] := List.eq_nil_of_length_eq_zero hw0
      subst this
      rfl
    | succ j ih =>
      intro w hw0 hl
      have hne : w ≠ [] := fun e => by rw [e] at hw0; cases hw0
      have ew : w = w.dropLast ++ [w.getLast hne] := (List.dropLast_concat_getLast hne).symm
      generalize w.dropLast = w' at ew
      generalize w.getLast hne = l at ew
      subst ew
      have hl' : ∀ x ∈ w', x < L := fun x hx => hl x (List.mem_append_left _ hx)
      have e := h w' hl'
      unfold runP at e
      rw [wr_snoc, wr_snoc, ih w' (by simpa using hw0) hl', e]
  exact fun w hw => key w.length w rfl hw
theorem sea_none (h1 : Tbl S1 L S1 nx1) (h2 : Tbl S2 L S2 nx2) {U : Nat} {b : P2} (hb : b.1 < S1 ∧ b.2 < S2) (hU : S1 * S2 ≤ U) (h : seaP U L nx1 os1 nx2 os2 b = none) : WW L nx1 os1 nx2 os2 b.1 b.2 := by
  refine ww_of_rows (bfs_none h1 h2 hb U _ 0 (wf_0 _ b) (fun i n hi => absurd hi (Nat.not_lt_zero _)) (by omega) ?_)
  unfold seaP resP at h
  cases e : bfsP (badP os1 os2) (gsP L nx1 nx2) U [(b, none, [])] 0 with
  | none => rfl
  | some x =>
    obtain ⟨F, A⟩ := x
    obtain ⟨_, _, n, n1, _⟩ := bfs_found (bad := badP os1 os2) U _ 0 (wf_0 (gsP L nx1 nx2) b) (fun i n hi => absurd hi (Nat.not_lt_zero _)) F A e
    rw [e] at h
    have h' : F[A]? = none := h
    rw [n1] at h'
    cases h'
/-- the reading found is one of unlike words, of letters, and the first such -/
theorem sea_read (h1 : Tbl S1 L S1 nx1) (h2 : Tbl S2 L S2 nx2) (o1 : Tbl S1 L B os1) (o2 : Tbl S2 L B os2) {U : Nat} {b : P2} (hb : b.1 < S1 ∧ b.2 < S2) {n : Nd} (hn : seaP U L nx1 os1 nx2 os2 b = some n) :
    (∀ l ∈ readP L os1 os2 n, l < L) ∧ wr nx1 os1 b.1 (readP L os1 os2 n) ≠ wr nx2 os2 b.2 (readP L os1 os2 n) ∧ ∀ w : List Nat, (∀ l ∈ w, l < L) → w.length < (readP L os1 os2 n).length → wr nx1 os1 b.1 w = wr nx2 os2 b.2 w := by
  obtain ⟨F, A, _, hw, hg, hA, hne⟩ := sea_some hn
  obtain ⟨hr, hl⟩ := hw.lead A n hA
  obtain ⟨l1, l2⟩ := hw.lt h1 h2 hb (List.mem_of_getElem? hA)
  obtain ⟨f1, f2, _⟩ := fstU_ok (o1.at l1).2.1 (o2.at l2).2.1 hne
  refine ⟨fun l hl' => ?_, fun e => ?_, fun w hwl hlen => ?_⟩
  · unfold readP at hl'
    rcases List.mem_append.mp hl' with q | q
    · exact hl l q
    · rw [List.mem_singleton.mp q]
      exact f1
  · unfold readP at e
    rw [wr_snoc, wr_snoc] at e
    have := (List.append_inj' e rfl).2
    have q := (List.cons.inj this).1
    have a1 : stW nx1 b.1 n.2.2 = n.1.1 := congrArg Prod.fst hr
    have a2 : stW nx2 b.2 n.2.2 = n.1.2 := congrArg Prod.snd hr
    rw [a1, a2] at q
    exact f2 q
  · unfold readP at hlen
    rw [List.length_append, List.length_singleton] at hlen
    exact hw.least hA hg w.length w rfl hwl (by omega)
/-! ### two machines side by side in one -/
def sumN (m : Nat) (nx1 nx2 : List (List Nat)) : List (List Nat) := nx1 ++ nx2.map fun r => r.map (· + m)
theorem rw1_left {t u : List (List Nat)} {i : Nat} (h : i < t.length) : rw1 (t ++ u) i = rw1 t i := by
  unfold rw1
  rw [List.getD_eq_getElem?_getD, List.getD_eq_getElem?_getD, List.getElem?_append_left h]
theorem rw1_right {t u : List (List Nat)} {m j : Nat} (h : t.length = m) : rw1 (t ++ u) (m + j) = rw1 u j := by
  unfold rw1
  rw [List.getD_eq_getElem?_getD, List.getD_eq_getElem?_getD, List.getElem?_append_right (by omega), show m + j - t.length = j by omega]
theorem sum_tbl (h1 : Tbl S1 L S1 nx1) (h2 : Tbl S2 L S2 nx2) : Tbl (S1 + S2) L (S1 + S2) (sumN S1 nx1 nx2) := ⟨by unfold sumN; rw [List.length_append, List.length_map, h1.len, h2.len], fun r hr => by
  unfold sumN at hr
  rcases List.mem_append.mp hr with q | q
  · obtain ⟨a, b⟩ := h1.row r q
    exact ⟨a, fun x hx => by have := b x hx; omega⟩
  · obtain ⟨r', hr', rfl⟩ := List.mem_map.mp q
    obtain ⟨a, b⟩ := h2.row r' hr'
    refine ⟨by rw [List.length_map]; exact a, fun x hx => ?_⟩
    obtain ⟨y, hy, rfl⟩ := List.mem_map.mp hx
    have := b y hy
    omega⟩
theorem sum_out (o1 : Tbl S1 L B os1) (o2 : Tbl S2 L B os2) : Tbl (S1 + S2) L B (os1 ++ os2) := ⟨by rw [List.length_append, o1.len, o2.len], fun r hr => by
  rcases List.mem_append.mp hr with q | q
  · exact o1.row r q
  · exact o2.row r q⟩
theorem wr_left (h1 : Tbl S1 L S1 nx1) (o1 : Tbl S1 L B os1) : ∀ (w : List Nat) (i : Nat), i < S1 → (∀ l ∈ w, l < L) → wr (sumN S1 nx1 nx2) (os1 ++ os2) i w = wr nx1 os1 i w
  | [], _, _, _ => rfl
  | l :: w, i, hi, hw => by
    have hl := hw l List.mem_cons_self
    have e1 : rw1 (sumN S1 nx1 nx2) i = rw1 nx1 i := rw1_left (by rw [h1.len]; exact hi)
    have e2 : rw1 (os1 ++ os2) i = rw1 os1 i := rw1_left (by rw [o1.len]; exact hi)
    unfold wr
    rw [e1, e2]
    congr 1
    exact wr_left h1 o1 w _ ((h1.at hi).2.2 _ (at1_mem (by rw [(h1.at hi).2.1]; exact hl))) fun x hx => hw x (List.mem_cons_of_mem _ hx)
theorem wr_right (h1 : Tbl S1 L S1 nx1) (o1 : Tbl S1 L B os1) (h2 : Tbl S2 L S2 nx2) (o2 : Tbl S2 L B os2) : ∀ (w : List Nat) (j : Nat), j < S2 → (∀ l ∈ w, l < L) → wr (sumN S1 nx1 nx2) (os1 ++ os2) (S1 + j) w = wr nx2 os2 j w
  | [], _, _, _ => rfl
  | l :: w, j, hj, hw => by
    have hl := hw l List.mem_cons_self
    have hlen := (h2.at hj).2.1
    have e1 : rw1 (sumN S1 nx1 nx2) (S1 + j) = (rw1 nx2 j).map (· + S1) := by
      unfold sumN
      rw [rw1_right h1.len]
      unfold rw1
      rw [List.getD_eq_getElem?_getD, List.getElem?_map, (show nx2[j]? = some (rw1 nx2 j) from (h2.at hj).1)]
      rfl
    have e2 : rw1 (os1 ++ os2) (S1 + j) = rw1 os2 j := rw1_right o1.len
    have e3 : at1 ((rw1 nx2 j).map (· + S1)) l = S1 + at1 (rw1 nx2 j) l := by
      rw [at1_map (by rw [hlen]; exact hl)]
      omega
    unfold wr
    rw [e1, e2, e3]
    congr 1
    exact wr_right h1 o1 h2 o2 w _ ((h2.at hj).2.2 _ (at1_mem (by rw [hlen]; exact hl))) fun x hx => hw x (List.mem_cons_of_mem _ hx)
/-- the first such reading has fewer letters than the states of both least machines -/
theorem sea_bound (h1 : Tbl S1 L S1 nx1) (h2 : Tbl S2 L S2 nx2) (o1 : Tbl S1 L B os1) (o2 : Tbl S2 L B os2) (p1 : 0 < S1) (p2 : 0 < S2) {U : Nat} {n : Nd} (hn : seaP U L nx1 os1 nx2 os2 (0, 0) = some n) : (readP L os1 os2 n).length ≤ (fndM nx1 os1).length + (fndM nx2 os2).length - 1 := by
  have t1 := lsN_tbl h1 o1.len p1
  have t2 := lsN_tbl h2 o2.len p2
  have u1 := lsO_tbl h1 o1 p1
  have u2 := lsO_tbl h2 o2 p2
  have q1 : 0 < (fndM nx1 os1).length := by
    obtain ⟨_, _, _, r, e⟩ := fndM_ok h1 o1.len p1
    rw [e]
    simp
  have q2 : 0 < (fndM nx2 os2).length := by
    obtain ⟨_, _, _, r, e⟩ := fndM_ok h2 o2.len p2
    rw [e]
    simp
  have w1 := fun (w : List Nat) (hw : ∀ l ∈ w, l < L) => ls_wr0 h1 o1 p1 hw
  have w2 := fun (w : List Nat) (hw : ∀ l ∈ w, l < L) => ls_wr0 h2 o2 p2 hw
  obtain ⟨_, g2, g3⟩ := sea_read h1 h2 o1 o2 (b := (0, 0)) ⟨p1, p2⟩ hn
  have g1 := (sea_read h1 h2 o1 o2 (b := (0, 0)) ⟨p1, p2⟩ hn).1
  generalize (fndM nx1 os1).length = m at *
  generalize (fndM nx2 os2).length = k at *
  generalize lsN nx1 os1 = a1 at *
  generalize lsN nx2 os2 = a2 at *
  generalize lsO nx1 os1 = b1 at *
  generalize lsO nx2 os2 = b2 at *
  have st := sum_tbl t1 t2
  have so := sum_out u1 u2
  have x1 := fun (w : List Nat) (hw : ∀ l ∈ w, l < L) => wr_left (nx2 := a2) (os2 := b2) t1 u1 w 0 q1 hw
  have x2 := fun (w : List Nat) (hw : ∀ l ∈ w, l < L) => wr_right t1 u1 t2 u2 w 0 q2 hw
  cases e : seaP ((m + k) * (m + k)) L (sumN m a1 a2) (b1 ++ b2) (sumN m a1 a2) (b1 ++ b2) (0, m + 0) with
  | none =>
    exfalso
    have ww := sea_none st st (b := (0, m + 0)) ⟨by omega, by omega⟩ (Nat.le_refl _) e
    have := ww _ g1
    dsimp only at this
    rw [x1 _ g1, x2 _ g1, w1 _ g1, w2 _ g1] at this
    exact g2 this
  | some n' =>
    have hl := sea_len st so (b := (0, m + 0)) ⟨by omega, by omega⟩ e
    obtain ⟨r1, r2, _⟩ := sea_read st st so so (b := (0, m + 0)) ⟨by omega, by omega⟩ e
    dsimp only at r2
    rw [x1 _ r1, x2 _ r1, w1 _ r1, w2 _ r1] at r2
    by_cases c : (readP L (b1 ++ b2) (b1 ++ b2) n').length < (readP L os1 os2 n).length
    · exact absurd (g3 _ r1 c) r2
    · omega
end
end Py.U
/-! Numbers made of bits; the words of a reading, the letters of words; what a machine writes, place by place. No program in sight. -/
namespace Py.U
/-- the number whose bits, from the lowest on, are f 0, f 1, .. -/
def nb (f : Nat → Nat) : Nat → Nat
  | 0 => 0
  | k + 1 => nb f k + f k * 2 ^ k
theorem nb_lt {f : Nat → Nat} : ∀ {w : Nat}, (∀ p, p < w → f p < 2) → nb f w < 2 ^ w
  | 0, _ => by
    show 0 < 1
    decide
  | w + 1, h => by
    have q := nb_lt (f := f) (w := w) fun p hp => h p (by omega)
    have b := h w (by omega)
    unfold nb
    rw [Nat.pow_succ]
    have : f w = 0 ∨ f w = 1 := by omega
    rcases this with e | e <;> rw [e] <;> omega
theorem bt_nb {f : Nat → Nat} {p : Nat} : ∀ {w : Nat}, (∀ p, p < w → f p < 2) → p < w → bt (nb f w) p = f p
  | 0, _, h => by omega
  | w + 1, h, hp => by
    have hl := nb_lt (f := f) (w := w) fun p hp => h p (by omega)
    have pos : 0 < 2 ^ w := Nat.two_pow_pos w
    unfold nb
    by_cases e : p < w
    · rw [← bt_nb (f := f) (w := w) (fun p hp => h p (by omega)) e]
      rw [← bt_mod e (n := nb f w + f w * 2 ^ w), Nat.add_mul_mod_self_right, bt_mod e]
    · have e2 : p = w := by omega
      subst e2
      unfold bt
      rw [Nat.add_mul_div_right _ _ pos, Nat.div_eq_of_lt hl, Nat.zero_add, Nat.mod_eq_of_lt (h p (by omega))]
theorem nb_sum (f : Nat → Nat) : ∀ w, ((List.range w).map fun p => f p * 2 ^ p).sum = nb f w
  | 0 => rfl
  | w + 1 => by
    rw [List.range_succ, List.map_append, List.sum_append, nb_sum f w]
    simp [nb]
/-- the bits of a list as a number -/
def nbl (bs : List Nat) : Nat := nb (at1 bs) bs.length
theorem nbl_inj {bs cs : List Nat} (hb : ∀ x ∈ bs, x < 2) (hc : ∀ x ∈ cs, x < 2) (hl : bs.length = cs.length) (h : nbl bs = nbl cs) : bs = cs := by
  apply List.ext_getElem hl
  intro p h1 h2
  have e : ∀ (l : List Nat) (hp : p < l.length), (∀ x ∈ l, x < 2) → bt (nbl l) p = l[p] := fun l hp hx => by
    unfold nbl
    rw [bt_nb (fun q hq => hx _ (at1_mem hq)) hp]
    simp [at1, hp]
  rw [← e bs h1 hb, ← e cs h2 hc, h]
/-- the k-th word of a reading -/
def wdK (ls : List Nat) (k : Nat) : Nat := nb (fun p => bt (at1 ls p) k) ls.length
def wds (n : Nat) (ls : List Nat) : List Nat := (List.range n).map (wdK ls)
theorem bt_lt2 (x p : Nat) : bt x p < 2 := by
  rcases bt01 x p with e | e <;> omega
theorem wds_at {n k : Nat} (ls : List Nat) (h : k < n) : at1 (wds n ls) k = wdK ls k := by
  unfold at1 wds
  simp [h]
theorem wds_len (n : Nat) (ls : List Nat) : (wds n ls).length = n := by simp [wds]
theorem wds_low (n : Nat) (ls : List Nat) : ∀ m ∈ wds n ls, m < 2 ^ ls.length := fun m hm => by
  obtain ⟨k, _, rfl⟩ := List.mem_map.mp hm
  exact nb_lt fun p _ => bt_lt2 _ _
/-- the letter at the place p of words -/
def ltP (cs : List Nat) (p : Nat) : Nat := nb (fun i => bt (at1 cs i) p) cs.length
theorem ltP_wds {n : Nat} {ls : List Nat} (hl : ∀ l ∈ ls, l < 2 ^ n) {p : Nat} (hp : p < ls.length) : ltP (wds n ls) p = at1 ls p := by
  refine eq_of_bt (w := n) ?_ (hl _ (at1_mem hp)) fun i hi => ?_
  · have := nb_lt (f := fun i => bt (at1 (wds n ls) i) p) (w := (wds n ls).length) fun i _ => bt_lt2 _ _
    rw [wds_len] at this
    unfold ltP
    rw [wds_len]
    exact this
  · unfold ltP
    rw [wds_len, bt_nb (fun i _ => bt_lt2 _ _) hi, wds_at ls hi]
    unfold wdK
    rw [bt_nb (fun i _ => bt_lt2 _ _) hp]
theorem lts_wds {n : Nat} {ls : List Nat} (hl : ∀ l ∈ ls, l < 2 ^ n) : (List.range ls.length).map (ltP (wds n ls)) = ls := by
  apply List.ext_getElem
  · simp
  · intro p h1 h2
    rw [List.getElem_map, List.getElem_range, ltP_wds hl h2]
    simp [at1, h2]
/-! ### what is written, place by place -/
theorem wr_len (nx os : List (List Nat)) : ∀ (ls : List Nat) (s : Nat), (wr nx os s ls).length = ls.length
  | [], _ => rfl
  | l :: ls, s => by
    unfold wr
    rw [List.length_cons, List.length_cons, wr_len nx os ls]
theorem wr_at (nx os : List (List Nat)) : ∀ (ls : List Nat) (s p : Nat), p < ls.length → at1 (wr nx os s ls) p = at1 (rw1 os (stW nx s (ls.take p))) (at1 ls p)
  | [], _, _, h => by simp at h
  | l :: ls, s, 0, _ => by simp [wr, at1, stW]
  | l :: ls, s, p + 1, h => by
    have := wr_at nx os ls (at1 (rw1 nx s) l) p (by simpa using h)
    unfold wr
    show at1 (wr nx os (at1 (rw1 nx s) l) ls) p = _
    rw [this]
    simp [stW, at1]
theorem stW_take (nx : List (List Nat)) (s : Nat) {ls : List Nat} {p : Nat} (h : p < ls.length) : stW nx s (ls.take (p + 1)) = at1 (rw1 nx (stW nx s (ls.take p))) (at1 ls p) := by
  rw [List.take_add_one, List.getElem?_eq_getElem h]
  show stW nx s (ls.take p ++ [ls[p]]) = _
  rw [stW_snoc]
  simp [at1, h]
theorem wr_lt {S L B : Nat} {nx os : List (List Nat)} (h : Tbl S L S nx) (ho : Tbl S L B os) : ∀ (ls : List Nat) (s : Nat), s < S → (∀ l ∈ ls, l < L) → ∀ x ∈ wr nx os s ls, x < B
  | [], _, _, _, x, hx => by simp [wr] at hx
  | l :: ls, s, hs, hl, x, hx => by
    have l0 := hl l List.mem_cons_self
    unfold wr at hx
    rcases List.mem_cons.mp hx with rfl | hx
    · exact (ho.at hs).2.2 _ (at1_mem (by rw [(ho.at hs).2.1]; exact l0))
    · exact wr_lt h ho ls _ ((h.at hs).2.2 _ (at1_mem (by rw [(h.at hs).2.1]; exact l0))) (fun m hm => hl m (List.mem_cons_of_mem _ hm)) x hx
end Py.U
namespace Py.U
open PySem
theorem cell_ok (ns : List Int) (k : Nat) : ∃ c : Int, m_law_cell [.lst (ns.map .int), .int (k : Int)] = .ok (.int c) := by
  unfold m_law_cell
  rw [fn2]
  unfold b__law_cell
  by_cases h : k < ns.length
  · have h' : (k : Int) < (ns.length : Int) := by omega
    refine ⟨ns[k], ?_⟩
    simp [var, h', lst_at ns h]
  · have h' : ¬ (k : Int) < (ns.length : Int) := by omega
    by_cases h0 : 0 < ns.length
    · have h0' : (0 : Int) < (ns.length : Int) := by omega
      have hm : k % ns.length < ns.length := Nat.mod_lt _ h0
      have e1 : omod (.int (k : Int)) (.int (ns.length : Int)) = .ok (.int ((k : Int) % (ns.length : Int))) := omod_ii h0'
      have e2 := lst_at ns hm
      rw [Int.natCast_emod] at e2
      refine ⟨ns[k % ns.length] % 100003 + 7919 * k, ?_⟩
      simp [var, h', h0, e1, e2, omod_ii, omul_l, omul_r]
    · refine ⟨7919 * k + 5, ?_⟩
      simp [var, h', h0, omul_l, omul_r]
theorem mixed_ok (c k : Int) : ∃ r : Int, 0 ≤ r ∧ r < 125000001 ∧ m_law_mixed [.int c, .int k] = .ok (.int r) := by
  unfold m_law_mixed
  rw [fn2]
  unfold b__law_mixed
  have a0 := Int.emod_nonneg (c * 48271 + k * 1103515245 + 12345) (b := 2147483647) (by decide)
  have a1 := Int.emod_lt_of_pos (c * 48271 + k * 1103515245 + 12345) (b := 2147483647) (by decide)
  generalize e1 : (c * 48271 + k * 1103515245 + 12345) % 2147483647 = a at a0 a1
  have b0 := Int.emod_nonneg (a * a + 69621) (b := 2147483563) (by decide)
  have b1 := Int.emod_lt_of_pos (a * a + 69621) (b := 2147483563) (by decide)
  generalize e2 : (a * a + 69621) % 2147483563 = b at b0 b1
  have m1 : omul (.int a) (.int a) = .ok (.int (a * a)) := omul_ii (by unfold B64; omega)
  have m2 : omul (.int b) (.int (b % 65521 + 3)) = .ok (.int (b * (b % 65521 + 3))) := omul_ii (by unfold B64; omega)
  have c0 := Int.emod_nonneg (b * (b % 65521 + 3)) (b := 1000000007) (by decide)
  have c1 := Int.emod_lt_of_pos (b * (b % 65521 + 3)) (b := 1000000007) (by decide)
  refine ⟨b * (b % 65521 + 3) % 1000000007 / 8, by omega, by omega, ?_⟩
  simp [var, omod_ii, omul_l, omul_r, ofdiv_ii, e1, e2, m1, m2]
def DI (c : Int) (ss : List Int) (i : Nat) (e : Env) : Prop := ∃ (ds : List Int) (l : Int) (o : Option D), Drawn ds (ss.take i) ∧ e = [some (.int c), some (.lst (ss.map .int)), some (.lst (ds.map .int)), some (.int l), o]
def drawB : SM := Py.ite (andT (tst (bin oge (var 0) (bin opow (cst (.int 10)) (cst (.int 18))))) (andT (tst (bin olt (var 4) (cst (.int 60)))) (tst (bin ogt (var 3) (cst (.int 0)))))) (seq (app 2 (bin omod (un bint (var 3)) (bin oidx (var 1) (var 4))))
  (asg (gnm 3) (bin ofdiv (var 3) (bin oidx (var 1) (var 4))))) (app 2 (bin omod (call m_law_mixed (argC (var 0) (argC (var 4) argN))) (bin oidx (var 1) (var 4))))
theorem draw1 {c l z s r : Int} {ss ds : List Int} {o : Option D} (ix : oidx (.lst (ss.map .int)) (.int z) = .ok (.int s)) (h1 : 0 < s) (h2 : s < 1073741824) (hr : m_law_mixed [.int c, .int z] = .ok (.int r)) (hl : ds.length < SZ) :
    drawB [some (.int c), some (.lst (ss.map .int)), some (.lst (ds.map .int)), some (.int l), some (.int z)] =
      if 1000000000000000000 ≤ c ∧ z < 60 ∧ 0 < l then .ok (.next [some (.int c), some (.lst (ss.map .int)), some (.lst ((ds ++ [l % s]).map .int)), some (.int (l / s)), some (.int z)])
      else .ok (.next [some (.int c), some (.lst (ss.map .int)), some (.lst ((ds ++ [r % s]).map .int)), some (.int l), some (.int z)]) := by
  have hp := opow18
  have hl2 : (ds.map D.int).length < SZ := by rw [List.length_map]; exact hl
  unfold drawB
  by_cases g1 : (1000000000000000000 : Int) ≤ c
  · by_cases g2 : z < 60
    · by_cases g3 : 0 < l
      · simp [var, hp, g1, g2, g3, ix, omod_ii h1, ofdiv_ii ⟨h1, h2⟩, hl]
      · simp [var, hp, g1, g2, g3, ix, omod_ii h1, hr, hl]
    · simp [var, hp, g1, g2, ix, omod_ii h1, hr, hl]
  · simp [var, hp, g1, ix, omod_ii h1, hr, hl]
theorem draw_step {c : Int} {ss : List Int} (hz : ss.length < 10000) (hs : ∀ s ∈ ss, 0 < s ∧ s < 1073741824) : ∀ i e, i < ss.length → DI c ss i e → ∃ e', forB (gnm 4) drawB (.int ((i : Nat) : Int)) e = .ok (.next e') ∧ DI c ss (i + 1) e' := by
    rintro i e hi ⟨ds, l, o, hd, rfl⟩
    have hl := hd.length
    rw [List.length_take] at hl
    have hl2 : ds.length < SZ := by
      have : ds.length < 10000 := by omega
      exact Nat.lt_trans this (by decide)
    obtain ⟨h1, h2⟩ := hs ss[i] (List.getElem_mem hi)
    have ix := lst_at ss hi
    have ht : ss.take (i + 1) = ss.take i ++ [ss[i]] := by rw [List.take_add_one]; simp [hi]
    obtain ⟨r, r0, r1, hr⟩ := mixed_ok c i
    have q := draw1 (l := l) (o := o) ix h1 h2 hr hl2
    rw [forB_eq, gnm_eq, lift_some, bind_ok]
    by_cases g : (1000000000000000000 : Int) ≤ c ∧ (i : Int) < 60 ∧ 0 < l
    · rw [if_pos g] at q
      exact ⟨_, q, ds ++ [l % ss[i]], l / ss[i], _, by rw [ht]; exact hd.snoc (Int.emod_nonneg _ (by omega)) (Int.emod_lt_of_pos _ h1), rfl⟩
    · rw [if_neg g] at q
      exact ⟨_, q, ds ++ [r % ss[i]], l, _, by rw [ht]; exact hd.snoc (Int.emod_nonneg _ (by omega)) (Int.emod_lt_of_pos _ h1), rfl⟩
theorem v1 (c : Int) (ss : List Int) (hz : ss.length < 10000) (hs : ∀ s ∈ ss, 0 < s ∧ s < 1073741824) : ∃ ds : List Int, Drawn ds ss ∧ ∃ l o, forL (forB (gnm 4) drawB) ((List.range ss.length).map fun i => .int ((i : Nat) : Int)) [some (.int c), some (.lst (ss.map .int)), some (.lst []), some (.int c), none] = .ok (.next [some (.int c), some (.lst (ss.map .int)), some (.lst (ds.map .int)), some (.int l), o]) := by
  obtain ⟨e', h1, ds, l, o, hd, rfl⟩ := forR_inv (e := [some (.int c), some (.lst (ss.map .int)), some (.lst []), some (.int c), none]) (DI c ss) ⟨[], c, none, by simp [Drawn], rfl⟩ (draw_step hz hs)
  rw [List.take_length] at hd
  exact ⟨ds, hd, l, o, h1⟩
theorem v2 (c : Int) (ss : List Int) (hz : ss.length < 10000) : irng1 (un blen (var 1)) [some (.int c), some (.lst (ss.map .int)), some (.lst []), some (.int c), none] = .ok ((List.range ss.length).map fun i => .int ((i : Nat) : Int)) := by
  have hn : ss.length < B62 := Nat.lt_trans hz (by decide)
  exact irng1_nat (n := ss.length) (by simp [var]) hn
theorem draws_ok (c : Int) (ss : List Int) (hz : ss.length < 10000) (hs : ∀ s ∈ ss, 0 < s ∧ s < 1073741824) : ∃ ds : List Int, Drawn ds ss ∧ m_law_draws [.int c, .lst (ss.map .int)] = .ok (.lst (ds.map .int)) := by
  obtain ⟨ds, hd, l, o, h1⟩ := v1 c ss hz hs
  have hr := v2 c ss hz
  refine ⟨ds, hd, ?_⟩
  unfold m_law_draws
  rw [fn2]
  unfold b__law_draws
  have hc : chk ([] : List D).length (.lst []) = .ok (.lst []) := rfl
  show done (seq (asg (gnm 2) (lstE argN)) (seq (asg (gnm 3) (var 0)) (seq (for_ (irng1 (un blen (var 1))) (gnm 4) drawB) (ret (var 2)))) [some (.int c), some (.lst (ss.map .int)), none, none, none]) = _
  rw [seq_eq, asg_eq, lstE_eq, argN_eq, bind_ok, hc, bind_ok, gnm_eq, lift_some, bind_ok, bind_ok]
  dsimp only
  rw [seq_eq, asg_eq]
  have e1 : var 0 (List.set [some (D.int c), some (D.lst (ss.map .int)), none, none, none] 2 (some (D.lst []))) = .ok (.int c) := rfl
  rw [e1, bind_ok, gnm_eq, lift_some, bind_ok, bind_ok]
  dsimp only
  rw [seq_eq, for_eq]
  have e2 : irng1 (un blen (var 1)) (List.set (List.set [some (D.int c), some (D.lst (ss.map .int)), none, none, none] 2 (some (D.lst []))) 3 (some (D.int c))) = _ := hr
  rw [e2, bind_ok]
  have e3 : forL (forB (gnm 4) drawB) ((List.range ss.length).map fun i => .int ((i : Nat) : Int)) (List.set (List.set [some (D.int c), some (D.lst (ss.map .int)), none, none, none] 2 (some (D.lst []))) 3 (some (D.int c))) = _ := h1
  rw [e3, bind_ok]
  rfl
end Py.U
namespace Py.U
open PySem
theorem mod_nat (z : Int) {n : Nat} (h : 0 < n) : ∃ a : Nat, a < n ∧ z % (n : Int) = (a : Int) := by
  have h0 : (0 : Int) < (n : Int) := by omega
  have a0 := Int.emod_nonneg z (b := (n : Int)) (by omega)
  have a1 := Int.emod_lt_of_pos z h0
  exact ⟨(z % (n : Int)).toNat, by omega, by omega⟩
theorem nat_eq (a b : Nat) : oeq (nD a) (nD b) = .ok (.bl (decide (a = b))) := by
  unfold nD
  rw [oeq_ii]
  congr 2
  rw [Bool.eq_iff_iff]
  simp only [beq_iff_eq, decide_eq_true_eq]
  exact Int.ofNat_inj
theorem nadd (a b : Nat) : oadd (nD a) (nD b) = .ok (nD (a + b)) := by
  unfold nD
  rw [oadd_ii]
  rfl
theorem enum_at {ds : List D} {k i : Nat} (h : i < (enumL k ds).length) (h2 : i < ds.length) : (enumL k ds)[i] = .tup [.int ((k + i : Nat) : Int), ds[i]] := by
  induction ds generalizing k i with
  | nil => simp at h2
  | cons d ds ih =>
    cases i with
    | zero => rfl
    | succ i =>
      simp only [enumL, List.getElem_cons_succ]
      rw [ih (k := k + 1) _ (by simpa using h2)]
      rw [show k + 1 + i = k + (i + 1) by omega]
theorem enum_len : ∀ (ds : List D) (k : Nat), (enumL k ds).length = ds.length
  | [], _ => rfl
  | d :: ds, k => by
    simp only [enumL, List.length_cons]
    rw [enum_len ds]
theorem isint_ok (n : Nat) : m_is_integer [nD n] = .ok (.bl true) := by
  have h1 : oisi CS [.int] (nD n) = .ok (.bl true) := rfl
  have h2 : oisi CS [.bl] (nD n) = .ok (.bl false) := rfl
  unfold m_is_integer
  rw [fn1]
  unfold b_is_integer
  generalize nD n = N at *
  simp [var, h1, h2]
theorem is_below_ok (a b : Nat) : m_is_below [nD a, nD b] = .ok (.bl (decide (a < b))) := by
  have h := isint_ok a
  have h1 : ole (.int 0) (nD a) = .ok (.bl true) := by
    unfold nD
    rw [ole_ii, decide_eq_true (by omega)]
  have h2 : olt (nD a) (nD b) = .ok (.bl (decide (a < b))) := by
    unfold nD
    rw [olt_ii]
    congr 2
    exact decide_eq_decide.mpr (by omega)
  unfold m_is_below
  rw [fn2]
  unfold b_is_below
  generalize nD a = A at *
  generalize nD b = B at *
  simp [var, h, h1, h2]
theorem shl_nD {n : Nat} (h : n ≤ 1000) : oshl (.int 1) (nD n) = .ok (nD (2 ^ n)) := by
  unfold nD
  rw [oshl1 n h]
  simp
/-! ### the same? -/
/-! ### the row is made -/
theorem inputs_ok {n : Nat} (h1 : 1 ≤ n) (h3 : n ≤ 3) : m_is_inputs [nD n] = .ok (.bl true) := by
  have : n = 1 ∨ n = 2 ∨ n = 3 := by omega
  rcases this with rfl | rfl | rfl <;> rfl
theorem made_eq {p n : Nat} {cls : String} {body : SM} {ds : List D} {c : String} {fs : List (String × D)} {r : Env} (hl : ds.length + 1 = p) (h : body ((some (.ins cls []) :: ds.map some) ++ List.replicate (n - p) none) = .ok (.next (some (.ins c fs) :: r))) : made p n cls body ds = .ok (.ins c fs) := by
  unfold made
  rw [if_pos hl, h]
theorem mod_nD (z : Int) {n : Nat} (h : 0 < n) : ∃ a : Nat, a < n ∧ omod (.int z) (nD n) = .ok (nD a) := by
  obtain ⟨a, ha, e⟩ := mod_nat z h
  refine ⟨a, ha, ?_⟩
  unfold nD
  rw [omod_ii (by omega), e]
/-! ### numbers from nought -/
theorem nsub {a b : Nat} (h : b ≤ a) : osub (nD a) (nD b) = .ok (nD (a - b)) := by
  unfold nD
  rw [osub_ii]
  congr 2
  omega
theorem cut_take {α : Type} (xs : List α) {k : Nat} (h : k ≤ xs.length) : cut xs none (some (k : Int)) = xs.take k := by
  unfold cut
  have e0 : HT.sIx xs.length 0 none = 0 := rfl
  have e1 : HT.sIx xs.length xs.length (some (k : Int)) = k := by rw [HT.sIx_nat, Nat.min_eq_left h]
  rw [e0, e1, List.drop_zero, Nat.sub_zero]
/-! ### letters drawn -/
theorem rep_one (w : Int) (k : Nat) (h : k ≤ 10000) : olrep (.lst [.int w]) (.int (k : Int)) = .ok (.lst ((List.replicate k w).map D.int)) := by
  have e0 : olrep (.lst [.int w]) (.int (k : Int)) = .ok (.lst (List.replicate (k : Int).toNat [.int w]).flatten) := if_pos ⟨by simp, by simpa using h⟩
  rw [e0, Int.toNat_natCast]
  have e : ∀ n : Nat, (List.replicate n [D.int w]).flatten = (List.replicate n w).map D.int := fun n => by
    induction n with
    | zero => rfl
    | succ n ih => simp [List.replicate_succ, ih]
  rw [e]
theorem drawn_low : ∀ {ds : List Int} {w k : Nat}, Drawn ds (List.replicate k (w : Int)) → ∃ ls : List Nat, ds.map D.int = ls.map nD ∧ ls.length = k ∧ ∀ l ∈ ls, l < w
  | [], w, 0, _ => ⟨[], rfl, rfl, by simp⟩
  | d :: ds, w, k + 1, h => by
    obtain ⟨⟨h1, h2⟩, h3⟩ := (h : (0 ≤ d ∧ d < (w : Int)) ∧ Drawn ds (List.replicate k (w : Int)))
    obtain ⟨ls, e1, e2, e3⟩ := drawn_low h3
    refine ⟨d.toNat :: ls, ?_, by simp [e2], fun l hl => ?_⟩
    · rw [List.map_cons, List.map_cons, e1]
      unfold nD
      rw [Int.toNat_of_nonneg h1]
    · rcases List.mem_cons.mp hl with rfl | hl
      · omega
      · exact e3 l hl
  | [], w, k + 1, h => h.elim
  | d :: ds, w, 0, h => h.elim
theorem low_draws (c : Int) {w k : Nat} (hw : 0 < w ∧ w < 1000000) (hk : k < 10000) : ∃ ls : List Nat, m_law_draws [.int c, .lst ((List.replicate k (w : Int)).map D.int)] = .ok (.lst (ls.map nD)) ∧ ls.length = k ∧ ∀ l ∈ ls, l < w := by
  obtain ⟨ds, hd, q⟩ := draws_ok c (List.replicate k (w : Int)) (by simpa using hk) (fun s hs => by
    have e := List.eq_of_mem_replicate hs
    rw [e]
    omega)
  obtain ⟨ls, e1, e2, e3⟩ := drawn_low hd
  rw [e1] at q
  exact ⟨ls, q, e2, e3⟩
theorem shl_bit {b : Nat} (hb : b = 0 ∨ b = 1) {p : Nat} (h : p ≤ 1000) : oshl (nD b) (nD p) = .ok (nD (b * 2 ^ p)) := by
  unfold nD
  rw [oshl_bit (by omega) p h]
  simp
theorem chk_pass {c : TM} {r b : SM} {e : Env} (h : c e = .ok false) : seq (Py.ite c b skip) r e = r e := by
  refine seq_next ?_
  unfold Py.ite
  rw [h, bind_ok]
  rfl
theorem asg_pass {i : Nat} {m : EM} {r : SM} {e : Env} {d : D} (h : m e = .ok d) : seq (asg (gnm i) m) r e = r (e.set i (some d)) := by
  refine seq_next ?_
  rw [asg_eq, h]
  rfl
theorem for_pass {it : IM} {g : GM} {b r : SM} {e e' : Env} {xs : List D} (h : it e = .ok xs) (h2 : forL (forB g b) xs e = .ok (.next e')) : seq (for_ it g b) r e = r e' := by
  refine seq_next ?_
  rw [for_eq, h]
  exact h2
/-! ### deeds drawn -/
theorem cut_two {α : Type} (xs : List α) {i j : Nat} (h : i ≤ j) (h2 : j ≤ xs.length) : cut xs (some (i : Int)) (some (j : Int)) = (xs.drop i).take (j - i) := by
  unfold cut
  have e0 : HT.sIx xs.length 0 (some (i : Int)) = i := by rw [HT.sIx_nat, Nat.min_eq_left (by omega)]
  have e1 : HT.sIx xs.length xs.length (some (j : Int)) = j := by rw [HT.sIx_nat, Nat.min_eq_left h2]
  rw [e0, e1]
theorem nmul {a b : Nat} (h : a ≤ 1000) : omul (nD a) (nD b) = .ok (nD (a * b)) := by
  unfold nD
  rw [omul_l (by omega) (by omega)]
  simp
theorem table_ok (c : Int) {S L B : Nat} (hS : S ≤ 30) (hL : L ≤ 30) (hB : 0 < B ∧ B < 1000000) : ∃ t, Tbl S L B t ∧ m_law_table [.int c, nD S, nD L, nD B] = .ok (.lst (t.map rD)) := by
  have hSL : S * L ≤ 900 := Nat.mul_le_mul hS hL
  obtain ⟨ls, h1, h2, h3⟩ := low_draws c hB (k := S * L) (by omega)
  have hle : ∀ s, s < S → s * L + L ≤ ls.length := fun s hs => by
    rw [h2]
    have := Nat.mul_le_mul_right L hs
    rw [Nat.succ_mul] at this
    exact this
  refine ⟨(List.range S).map fun s => (ls.drop (s * L)).take L, ⟨by simp, fun r hr => ?_⟩, ?_⟩
  · obtain ⟨s, hs, rfl⟩ := List.mem_map.mp hr
    have hs2 : s < S := by simpa using hs
    have := hle s hs2
    refine ⟨?_, fun x hx => h3 x (List.mem_of_mem_drop (List.mem_of_mem_take hx))⟩
    rw [List.length_take, List.length_drop]
    omega
  · have r1 := rep_one (B : Int) (S * L) (by omega)
    have m1 := nmul (a := S) (b := L) (by omega)
    have hc : ∀ a b, lcE (irng1 (var 1)) [5] (gnm 5) yes (un btuple (slc (var 4) (some (bin omul (var 5) (var 2))) (some (bin omul (bin oadd (var 5) (cst (.int 1))) (var 2))))) [some (.int c), some (nD S), some (nD L), a, some (.lst (ls.map nD)), b] = .ok (.lst (((List.range S).map fun s => (ls.drop (s * L)).take L).map rD)) := fun a b => by
      rw [List.map_map]
      refine lc_mapI (k := fun i => .int ((i : Nat) : Int)) (irng1_nat (by simp [var, nD]) (rng_lt (by omega))) (by rw [List.length_range]; exact le_sz (by omega)) fun s hs => ?_
      have hs2 : s < S := by simpa using hs
      have e1 : omul (.int (s : Int)) (nD L) = .ok (nD (s * L)) := nmul (a := s) (by omega)
      have e2 : oadd (.int (s : Int)) (.int 1) = .ok (nD (s + 1)) := nadd s 1
      have e3 : omul (nD (s + 1)) (nD L) = .ok (nD ((s + 1) * L)) := nmul (by omega)
      have e4 : oslc (.lst (ls.map nD)) (some ((s * L : Nat) : Int)) (some (((s + 1) * L : Nat) : Int)) = .ok (.lst (((ls.drop (s * L)).take L).map nD)) := by
        have := hle s hs2
        rw [oslc_l, cut_two _ (by rw [Nat.succ_mul]; omega) (by rw [List.length_map, Nat.succ_mul]; exact this), Nat.succ_mul, Nat.add_sub_cancel_left, List.map_take, List.map_drop]
      show ∃ e1, _ ∧ _ = Res.ok (D.tup (((ls.drop (s * L)).take L).map nD))
      change omul _ _ = .ok (.int ((s * L : Nat) : Int)) at e1
      change omul _ _ = .ok (.int (((s + 1) * L : Nat) : Int)) at e3
      generalize ((s * L : Nat) : Int) = i1 at *
      generalize (((s + 1) * L : Nat) : Int) = i2 at *
      generalize nD (s + 1) = i3 at *
      generalize ((ls.drop (s * L)).take L).map nD = T at *
      generalize (s : Int) = z at *
      generalize ls.map nD = LS at *
      generalize nD L = l at *
      exact ⟨_, rfl, by simp only [wipe]; simp [var, slc_eq, bnd_some, e1, e2, e3, e4]⟩
    unfold m_law_table
    rw [fn4]
    unfold b__law_table
    change omul _ _ = .ok (.int ((S * L : Nat) : Int)) at m1
    change olrep (.lst [nD B]) _ = _ at r1
    generalize ((S * L : Nat) : Int) = z at *
    generalize ((List.range S).map fun s => (ls.drop (s * L)).take L).map rD = T at *
    generalize (List.replicate (S * L) (B : Int)).map D.int = RS at *
    generalize ls.map nD = LS at *
    generalize nD S = s at *
    generalize nD L = l at *
    generalize nD B = b at *
    simp [var, r1, m1, h1, hc]
theorem line_ok {r : List Nat} {L B : Nat} (hl : r.length = L) (hb : ∀ x ∈ r, x < B) (hz : L ≤ 1000) : m_is_line [rD r, nD L, nD B] = .ok (.bl true) := by
  have h1 : oisi CS [.tup] (rD r) = .ok (.bl true) := rfl
  have h2 : blen (rD r) = .ok (nD L) := by
    unfold rD
    rw [blen_t, List.length_map, hl]
    rfl
  have h3 : Py.one (nD L) (nD L) = .ok (.bl false) := by
    unfold nD
    rw [one_ii]
    simp
  have hc : lcE (iseq (var 0)) [3] (gnm 3) yes (call m_is_below (argC (var 3) (argC (var 2) argN))) [some (rD r), some (nD L), some (nD B), none] = .ok (.lst (r.map fun _ => .bl true)) := by
    refine lc_mapI (k := nD) (by simp [var, rD]) (by rw [hl]; exact le_sz hz) fun a ha => ?_
    have q := is_below_ok a B
    rw [decide_eq_true (hb a ha)] at q
    generalize nD a = A at *
    generalize nD B = N at *
    exact ⟨_, rfl, by simp only [wipe]; simp [var, q]⟩
  have hb2 : ball (.lst (r.map fun _ => .bl true)) = .ok (.bl true) := by
    have := ball_bools (r.map fun _ => true)
    rw [List.map_map] at this
    refine this.trans ?_
    rw [show (r.map fun _ => true).all id = true by simp]
  unfold m_is_line
  rw [fn3]
  unfold b_is_line
  generalize D.lst (r.map fun _ => .bl true) = Z at *
  generalize rD r = R at *
  generalize nD L = l at *
  generalize nD B = b at *
  simp [var, h1, h2, h3, hc, hb2]
theorem as_tup (ds : List D) : m_as_tuple [.lst ds] = .ok (.tup ds) := by
  have h : oisi CS [.lst, .tup] (.lst ds) = .ok (.bl true) := rfl
  unfold m_as_tuple
  rw [fn1]
  unfold b_as_tuple
  simp [var, h]
theorem nexts_ok {S L : Nat} {nx : List (List Nat)} (h : Tbl S L S nx) (hS : 0 < S) (hz : S ≤ 1000) (hL : L ≤ 1000) : m_right_nexts [.lst (nx.map rD), nD L] = .ok (.tup (nx.map rD)) := by
  have q1 := as_tup (nx.map rD)
  have q2 : truthy (.tup (nx.map rD)) = .ok true := by
    cases hx : nx with
    | nil =>
      have := h.len
      rw [hx] at this
      simp at this
      omega
    | cons a b => simp [truthy]
  have q3 : blen (.tup (nx.map rD)) = .ok (nD S) := by
    rw [blen_t, List.length_map, h.len]
    rfl
  have loop : ∃ e', forL (forB (gtup [(gnm 3), (gnm 4)]) (Py.ite (notT (tst (call m_is_line (argC (var 4) (argC (var 1) (argC (un blen (var 2)) argN)))))) (rais "InvalidMachine" ["part", "place"] (argC (cst (.str "nexts")) (argC (var 3) argN))) skip)) (enumL 0 (nx.map rD)) [some (.lst (nx.map rD)), some (nD L), some (.tup (nx.map rD)), none, none] = .ok (.next e') ∧ ∃ o3 o4, e' = [some (.lst (nx.map rD)), some (nD L), some (.tup (nx.map rD)), o3, o4] := by
    refine forL_inv (fun k e => ∃ o3 o4, e = [some (.lst (nx.map rD)), some (nD L), some (.tup (nx.map rD)), o3, o4]) 0 ⟨none, none, rfl⟩ ?_
    rintro k e hk ⟨o3, o4, rfl⟩
    have hk2 : k < nx.length := by
      rw [enum_len, List.length_map] at hk
      exact hk
    obtain ⟨h1, h2⟩ := h.row nx[k] (List.getElem_mem hk2)
    have q := line_ok h1 h2 hL
    rw [enum_at hk (by simpa using hk2), List.getElem_map, Nat.zero_add]
    generalize (k : Int) = z at *
    generalize rD nx[k] = R at *
    generalize nx.map rD = NX at *
    generalize nD L = l at *
    generalize nD S = s at *
    exact ⟨[some (.lst NX), some l, some (.tup NX), some (.int z), some R], by simp [var, gtup, gtupL, q, q3], _, _, rfl⟩
  obtain ⟨e', q4, o3, o4, rfl⟩ := loop
  have q5 : ienum (var 2) [some (.lst (nx.map rD)), some (nD L), some (.tup (nx.map rD)), none, none] = .ok (enumL 0 (nx.map rD)) := rfl
  unfold m_right_nexts
  rw [fn2]
  unfold b_right_nexts
  generalize hNX : nx.map rD = NX at *
  generalize nD L = l at *
  generalize enumL 0 NX = E at *
  simp [var, q1, q2, q4, q5]
theorem outs_ok {S L : Nat} {os : List (List Nat)} (h : Tbl S L 2 os) (hz : S ≤ 1000) (hL : L ≤ 1000) : m_right_outs [.lst (os.map rD), nD L, nD S] = .ok (.tup (os.map rD)) := by
  have q1 := as_tup (os.map rD)
  have q2 : oisN (.tup (os.map rD)) = .ok (.bl false) := rfl
  have q3 : blen (.tup (os.map rD)) = .ok (nD S) := by
    rw [blen_t, List.length_map, h.len]
    rfl
  have q4 : bmin2 (nD S) (nD S) = .ok (nD S) := by
    unfold nD bmin2
    simp
  have q5 : Py.one (nD S) (nD S) = .ok (.bl false) := by
    unfold nD
    rw [one_ii]
    simp
  have loop : ∃ e', forL (forB (gnm 5) (Py.ite (notT (tst (call m_is_line (argC (bin oidx (var 3) (var 5)) (argC (var 1) (argC (cst (.int 2)) argN)))))) (rais "InvalidMachine" ["part", "place"] (argC (cst (.str "outs")) (argC (var 5) argN))) skip)) ((List.range S).map fun i => .int ((i : Nat) : Int)) [some (.lst (os.map rD)), some (nD L), some (nD S), some (.tup (os.map rD)), some (nD S), none] = .ok (.next e') ∧ ∃ o5, e' = [some (.lst (os.map rD)), some (nD L), some (nD S), some (.tup (os.map rD)), some (nD S), o5] := by
    refine forR_inv (fun k e => ∃ o5, e = [some (.lst (os.map rD)), some (nD L), some (nD S), some (.tup (os.map rD)), some (nD S), o5]) ⟨none, rfl⟩ ?_
    rintro k e hk ⟨o5, rfl⟩
    have hk2 : k < os.length := by rw [h.len]; exact hk
    obtain ⟨h1, h2⟩ := h.row os[k] (List.getElem_mem hk2)
    have q := line_ok h1 h2 hL
    have q0 : oidx (.tup (os.map rD)) (.int (k : Int)) = .ok (rD os[k]) := oidx_t (k := k) (by simp [hk2])
    change m_is_line [_, _, .int 2] = _ at q
    generalize (k : Int) = z at *
    generalize rD os[k] = R at *
    generalize os.map rD = OS at *
    generalize nD L = l at *
    generalize nD S = s at *
    exact ⟨[some (.lst OS), some l, some s, some (.tup OS), some s, some (.int z)], by simp [var, q, q0], _, rfl⟩
  obtain ⟨e', q6, o5, rfl⟩ := loop
  have hr : irng1 (var 4) [some (.lst (os.map rD)), some (nD L), some (nD S), some (.tup (os.map rD)), some (nD S), none] = .ok ((List.range S).map fun i => .int ((i : Nat) : Int)) := irng1_nat (by simp [var, nD]) (rng_lt hz)
  unfold m_right_outs
  rw [fn3]
  unfold b_right_outs
  generalize hOS : os.map rD = OS at *
  generalize nD L = l at *
  generalize nD S = s at *
  simp [var, q1, q2, q3, q4, q5, q6, hr]
theorem mach_made {n S : Nat} {nx os : List (List Nat)} (h1 : 1 ≤ n) (h3 : n ≤ 3) (hn : Tbl S (2 ^ n) S nx) (ho : Tbl S (2 ^ n) 2 os) (hS : 0 < S) (hz : S ≤ 1000) : m_Machine [nD n, .lst (nx.map rD), .lst (os.map rD)] = .ok (macD n nx os) := by
  have hP : 2 ^ n ≤ 8 := by
    have : n = 1 ∨ n = 2 ∨ n = 3 := by omega
    rcases this with rfl | rfl | rfl <;> decide
  have q1 := inputs_ok h1 h3
  have q2 := shl_nD (n := n) (by omega)
  have q3 := nexts_ok hn hS hz (by omega)
  have q4 := outs_ok ho hz (by omega)
  have q5 : blen (.tup (nx.map rD)) = .ok (nD S) := by
    rw [blen_t, List.length_map, hn.len]
    rfl
  have q6 : oattr ["Machine"] "nexts" (.ins "Machine" [("inputs", nD n), ("nexts", .tup (nx.map rD))]) = .ok (.tup (nx.map rD)) := rfl
  have key : b_Machine_init [some (.ins "Machine" []), some (nD n), some (.lst (nx.map rD)), some (.lst (os.map rD)), none] = .ok (.next [some (macD n nx os), some (nD n), some (.lst (nx.map rD)), some (.lst (os.map rD)), some (nD (2 ^ n))]) := by
    unfold b_Machine_init macD
    generalize nx.map rD = NX at *
    generalize os.map rD = OS at *
    generalize nD (2 ^ n) = P at *
    generalize nD n = N at *
    generalize nD S = s at *
    simp [var, q1, q2, q3, q4, q5, q6, setF, putF]
  exact made_eq rfl key
theorem mac_in (n : Nat) (nx os : List (List Nat)) : oattr ["Machine"] "inputs" (macD n nx os) = .ok (nD n) := rfl
end Py.U
namespace Py.U
open PySem
/-! ### the least machine by the program -/
theorem pow3 {n : Nat} (h1 : 1 ≤ n) (h3 : n ≤ 3) : 2 ^ n ≤ 8 := by
  have : n = 1 ∨ n = 2 ∨ n = 3 := by omega
  rcases this with rfl | rfl | rfl <;> decide
theorem setL_ok {i : Nat} {j m : EM} {e : Env} {xs : List D} {d : D} {k : Nat} (h1 : var i e = .ok (.lst xs)) (h2 : m e = .ok d) (h3 : j e = .ok (.int (k : Int))) (hk : k < xs.length) : setL i j m e = .ok (.next (e.set i (some (.lst (xs.set k d))))) := by
  unfold setL
  rw [h1, bind_ok]
  dsimp only
  rw [h2, bind_ok, h3, bind_ok]
  dsimp only
  have := ixN_nat hk
  show (match L2.ixN xs.length (k : Int) with | some n => Res.ok (Fl.next (e.set i (some (.lst (xs.set n d))))) | none => Res.stuck) = _
  rw [this]
end Py.U
namespace Py.U
open PySem
/-! ### the law's countdown -/
theorem tbl_snoc {S L B : Nat} {t : List (List Nat)} (h : Tbl S L B t) {r : List Nat} (hr : r.length = L ∧ ∀ x ∈ r, x < B) : Tbl (S + 1) L B (t ++ [r]) := ⟨by simp [h.len], fun x hx => by
  rcases List.mem_append.mp hx with q | q
  · exact h.row x q
  · rw [List.mem_singleton.mp q]
    exact hr⟩
theorem tbl_nil {L B : Nat} : Tbl 0 L B [] := ⟨rfl, by simp⟩
end Py.U
namespace Py.U
open PySem
/-! ### copies of states -/
def plD (w : List Nat) : D := .lst (w.map nD)
structure Pls (own st a : Nat) (W : List (List Nat)) : Prop where
  len : W.length = own
  row : ∀ w ∈ W, w.length ≤ a ∧ ∀ x ∈ w, x < st
  ne : ∀ j, j < a → j < own → rw1 W j ≠ []
theorem rw1_set {W : List (List Nat)} {q : Nat} {v : List Nat} (j : Nat) (hq : q < W.length) : rw1 (W.set q v) j = if q = j then v else rw1 W j := by
  unfold rw1
  rw [List.getD_eq_getElem?_getD, List.getElem?_set]
  by_cases c : q = j
  · subst c
    rw [if_pos rfl, if_pos hq, if_pos rfl]
    rfl
  · rw [if_neg c, if_neg c, List.getD_eq_getElem?_getD]
theorem Pls.at {own st a : Nat} {W : List (List Nat)} (h : Pls own st a W) {g : Nat} (hg : g < own) : W[g]? = some (rw1 W g) ∧ (rw1 W g).length ≤ a ∧ ∀ x ∈ rw1 W g, x < st := by
  have hl : g < W.length := by rw [h.len]; exact hg
  have e := rw1_get hl
  rw [e]
  exact ⟨List.getElem?_eq_getElem hl, h.row _ (List.getElem_mem hl)⟩
theorem Pls.step {own st a q : Nat} {W : List (List Nat)} (h : Pls own st a W) (ha : a < st) (hq : q < own) (hid : a < own → q = a) : Pls own st (a + 1) (W.set q (rw1 W q ++ [a])) := by
  obtain ⟨_, b1, b2⟩ := h.at hq
  refine ⟨by rw [List.length_set, h.len], fun w hw => ?_, fun j hj hj2 => ?_⟩
  · rcases List.mem_or_eq_of_mem_set hw with c | c
    · have := h.row w c
      exact ⟨by omega, this.2⟩
    · rw [c]
      refine ⟨by simp; omega, fun x hx => ?_⟩
      rcases List.mem_append.mp hx with c | c
      · exact b2 x c
      · rw [List.mem_singleton.mp c]
        exact ha
  · rw [rw1_set j (by rw [h.len]; exact hq)]
    split
    · simp
    · rename_i c
      by_cases e : j = a
      · subst e
        exact absurd (hid hj2) c
      · exact h.ne j (by omega) hj2
theorem pls_0 {own st : Nat} : Pls own st 0 (List.replicate own []) := ⟨by simp, fun w hw => by
  rw [List.eq_of_mem_replicate hw]
  simp, fun j hj => by omega⟩
def inI (w : List Nat) : List Int := w.map fun (n : Nat) => (n : Int)
theorem pl_loop {own st : Nat} {of : List Nat} (hl : of.length = st) (hlt : ∀ x ∈ of, x < own) (hid : ∀ j, j < own → at1 of j = j) (hz : st ≤ 1000) (a0 a1 a2 a3 a4 a5 a6 a10 a11 a12 a13 : Option D) : ∀ (k a : Nat) (W : List (List Nat)) (o9 : Option D), a + k ≤ st → Pls own st a W →
    ∃ W' o9', Pls own st (a + k) W' ∧ scatL 8 9 (bin oidx (var 7) (var 9)) (var 9) ((List.range' a k).map fun i => .int ((i : Nat) : Int)) [a0, a1, a2, a3, a4, a5, a6, some (.lst (of.map nD)), none, o9, a10, a11, a12, a13] (W.map inI) = .ok (.next [a0, a1, a2, a3, a4, a5, a6, some (.lst (of.map nD)), some (.lst (W'.map plD)), o9', a10, a11, a12, a13])
  | 0, a, W, o9, _, h => by
    refine ⟨W, o9, h, ?_⟩
    have e : ((W.map inI).map fun zs => D.lst (zs.map .int)) = W.map plD := by
      rw [List.map_map]
      refine List.map_congr_left fun w _ => ?_
      show D.lst ((inI w).map .int) = plD w
      unfold inI plD
      rw [List.map_map]
      rfl
    show Res.ok (Fl.next [a0, a1, a2, a3, a4, a5, a6, some (.lst (of.map nD)), some (.lst ((W.map inI).map fun zs => D.lst (zs.map .int))), o9, a10, a11, a12, a13]) = _
    rw [e]
  | k + 1, a, W, o9, hk, h => by
    have ha : a < of.length := by omega
    have e1 := idx_nL ha
    have hq : at1 of a < own := hlt _ (at1_mem ha)
    obtain ⟨_, b1, b2⟩ := h.at hq
    have hs := h.step (q := at1 of a) (by omega) hq (hid a)
    obtain ⟨W', o9', g1, g2⟩ := pl_loop hl hlt hid hz a0 a1 a2 a3 a4 a5 a6 a10 a11 a12 a13 k (a + 1) _ (some (nD a)) (by omega) hs
    refine ⟨W', o9', by rw [show a + (k + 1) = a + 1 + k by omega]; exact g1, ?_⟩
    rw [List.range'_succ, List.map_cons]
    unfold scatL
    have s1 : bin oidx (var 7) (var 9) ([a0, a1, a2, a3, a4, a5, a6, some (.lst (of.map nD)), none, o9, a10, a11, a12, a13].set 9 (some (.int ((a : Nat) : Int)))) = .ok (.int ((at1 of a : Nat) : Int)) := e1
    have s2 : var 9 ([a0, a1, a2, a3, a4, a5, a6, some (.lst (of.map nD)), none, o9, a10, a11, a12, a13].set 9 (some (.int ((a : Nat) : Int)))) = .ok (.int ((a : Nat) : Int)) := rfl
    have n1 : ∀ d : D, noexc (.ok d) = .ok d := fun _ => rfl
    have i1 : L2.ixN (W.map inI).length ((at1 of a : Nat) : Int) = some (at1 of a) := ixN_nat (by rw [List.length_map, h.len]; exact hq)
    have i2 : (W.map inI).getD (at1 of a) [] = inI (rw1 W (at1 of a)) := by
      have hl : at1 of a < W.length := by rw [h.len]; exact hq
      rw [rw1_get hl, List.getD_eq_getElem?_getD, List.getElem?_map, List.getElem?_eq_getElem hl]
      rfl
    have i3 : (inI (rw1 W (at1 of a))).length < SZ := by
      unfold inI
      rw [List.length_map]
      exact Nat.lt_of_le_of_lt (show _ ≤ 1000 by omega) (by decide)
    have i4 : (W.map inI).set (at1 of a) (inI (rw1 W (at1 of a)) ++ [(a : Int)]) = (W.set (at1 of a) (rw1 W (at1 of a) ++ [a])).map inI := by
      rw [List.map_set]
      congr 1
      unfold inI
      simp
    rw [s1, s2, n1, bind_ok, n1, bind_ok]
    dsimp only
    rw [i1]
    dsimp only
    rw [i2, if_pos i3, i4]
    exact g2
end Py.U
namespace Py.U
open PySem
theorem drawn_app : ∀ {A B ds : List Int}, Drawn ds (A ++ B) → ∃ x y, ds = x ++ y ∧ Drawn x A ∧ Drawn y B
  | [], B, ds, h => ⟨[], ds, rfl, trivial, h⟩
  | s :: A, B, [], h => h.elim
  | s :: A, B, d :: ds, h => by
    obtain ⟨x, y, e, h1, h2⟩ := drawn_app (A := A) (B := B) h.2
    exact ⟨d :: x, y, by rw [e]; rfl, ⟨h.1, h1⟩, h2⟩
def cpI : SM := (seq (asg (gnm 13) (bin oidx (var 8) (bin oidx (bin oidx (var 1) (bin oidx (var 7) (var 9))) (var 12))))
  (app 11 (bin oidx (var 13) (bin omod (bin oidx (var 6) (bin oadd (bin oadd (bin osub (var 3) (var 4)) (bin omul (var 9) (var 5))) (var 12))) (un blen (var 13))))))
def cpB : SM := (seq (asg (gnm 11) (lstE argN))
  (seq (for_ (irng1 (var 5)) (gnm 12) cpI)
  (app 10 (un btuple (var 11)))))
section
variable {own st L : Nat} {nx W : List (List Nat)} {of ds : List Nat}
theorem cp_inner (hx : Tbl own L own nx) (hW : Pls own st st W) (hof : of.length = st) (hlt : ∀ x ∈ of, x < own) (hos : own ≤ st) (hz : st ≤ 400) (hL : L ≤ 8) (hds : ds.length = st - own + st * L) {s : Nat} (hs : s < st) (a0 a2 a10 : Option D) (o12 o13 : Option D) :
    ∃ (r : List Nat) (o12' o13' : Option D), (r.length = L ∧ ∀ x ∈ r, x < st) ∧ forL (forB (gnm 12) cpI) ((List.range L).map fun i => .int ((i : Nat) : Int)) [a0, some (.lst (nx.map rD)), a2, some (nD st), some (nD own), some (nD L), some (.lst (ds.map nD)), some (.lst (of.map nD)), some (.lst (W.map plD)), some (nD s), a10, some (.lst []), o12, o13] = .ok (.next [a0, some (.lst (nx.map rD)), a2, some (nD st), some (nD own), some (nD L), some (.lst (ds.map nD)), some (.lst (of.map nD)), some (.lst (W.map plD)), some (nD s), a10, some (.lst (r.map nD)), o12', o13']) := by
  obtain ⟨e', q, r, o12', o13', h1, h2, rfl⟩ := forR_inv (b := forB (gnm 12) cpI) (n := L) (e := [a0, some (.lst (nx.map rD)), a2, some (nD st), some (nD own), some (nD L), some (.lst (ds.map nD)), some (.lst (of.map nD)), some (.lst (W.map plD)), some (nD s), a10, some (.lst []), o12, o13])
    (fun l E => ∃ (r : List Nat) (o12' o13' : Option D), r.length = l ∧ (∀ x ∈ r, x < st) ∧ E = [a0, some (.lst (nx.map rD)), a2, some (nD st), some (nD own), some (nD L), some (.lst (ds.map nD)), some (.lst (of.map nD)), some (.lst (W.map plD)), some (nD s), a10, some (.lst (r.map nD)), o12', o13']) ⟨[], o12, o13, rfl, by simp, rfl⟩ (by
      rintro l E hl ⟨r, o12', o13', h1, h2, rfl⟩
      have hf : at1 of s < own := hlt _ (at1_mem (by omega))
      have e1 := idx_nL (c := of) (i := s) (by omega)
      have e2 := idx_tL hx hf
      have hr := (hx.at hf).2
      have e3 := idx_nT (c := rw1 nx (at1 of s)) (i := l) (by omega)
      have hg : at1 (rw1 nx (at1 of s)) l < own := hr.2 _ (at1_mem (by omega))
      generalize at1 (rw1 nx (at1 of s)) l = g at *
      obtain ⟨b1, b2, b3⟩ := hW.at hg
      have b4 : 0 < (rw1 W g).length := List.length_pos_iff.mpr (hW.ne g (by omega) hg)
      have e4 : oidx (.lst (W.map plD)) (nD g) = .ok (.lst ((rw1 W g).map nD)) := oidx_l (by rw [List.getElem?_map, b1]; rfl)
      generalize rw1 W g = w at *
      have e5 := nsub (a := st) (b := own) hos
      have e6 := nmul (a := s) (b := L) (by omega)
      have e7 := nadd (st - own) (s * L)
      have e8 := nadd (st - own + s * L) l
      have hidx : st - own + s * L + l < ds.length := by
        have := Nat.mul_le_mul_right L hs
        rw [Nat.succ_mul] at this
        rw [hds]
        omega
      have e9 := idx_nL hidx
      have e10 := lenN w nD
      obtain ⟨p, hp, e11⟩ := mod_nD ((at1 ds (st - own + s * L + l) : Nat) : Int) b4
      change omod (nD _) _ = _ at e11
      have e12 := idx_nL hp
      have hv : at1 w p < st := b3 _ (at1_mem hp)
      have z : (r.map nD).length < SZ := szN (by omega)
      refine ⟨[a0, some (.lst (nx.map rD)), a2, some (nD st), some (nD own), some (nD L), some (.lst (ds.map nD)), some (.lst (of.map nD)), some (.lst (W.map plD)), some (nD s), a10, some (.lst ((r ++ [at1 w p]).map nD)), some (nD l), some (.lst (w.map nD))], ?_, r ++ [at1 w p], _, _, by simp [h1], fun x hx => ?_, rfl⟩
      · rw [forB_eq, gnm_eq, lift_some, bind_ok, List.map_append, List.map_singleton]
        show cpI [a0, some (.lst (nx.map rD)), a2, some (nD st), some (nD own), some (nD L), some (.lst (ds.map nD)), some (.lst (of.map nD)), some (.lst (W.map plD)), some (nD s), a10, some (.lst (r.map nD)), some (nD l), o13'] = _
        unfold cpI
        generalize nD (at1 w p) = V at *
        generalize nD p = P at *
        generalize nD (at1 ds (st - own + s * L + l)) = DV at *
        generalize nD (st - own + s * L + l) = I4 at *
        generalize nD (st - own + s * L) = I3 at *
        generalize nD (st - own) = I2 at *
        generalize nD (s * L) = I1 at *
        generalize nD w.length = WL at *
        generalize w.map nD = WM at *
        generalize W.map plD = WW at *
        generalize r.map nD = RR at *
        generalize ds.map nD = DD at *
        generalize of.map nD = OF at *
        generalize nx.map rD = NX at *
        generalize rD (rw1 nx (at1 of s)) = RW at *
        generalize nD (at1 of s) = F at *
        generalize nD g = G at *
        generalize nD st = ST at *
        generalize nD own = OW at *
        generalize nD L = LL at *
        generalize nD s = SS at *
        generalize nD l = LI at *
        simp [var, e1, e2, e3, e4, e5, e6, e7, e8, e9, e10, e11, e12, z]
      · rcases List.mem_append.mp hx with c | c
        · exact h2 x c
        · rw [List.mem_singleton.mp c]
          exact hv)
  exact ⟨r, o12', o13', ⟨h1, h2⟩, q⟩
theorem cp_outer (hx : Tbl own L own nx) (hW : Pls own st st W) (hof : of.length = st) (hlt : ∀ x ∈ of, x < own) (hos : own ≤ st) (hz : st ≤ 400) (hL : L ≤ 8) (hds : ds.length = st - own + st * L) (a0 a2 o9 o11 o12 o13 : Option D) :
    ∃ (t : List (List Nat)) (o9' o11' o12' o13' : Option D), Tbl st L st t ∧ forL (forB (gnm 9) cpB) ((List.range st).map fun i => .int ((i : Nat) : Int)) [a0, some (.lst (nx.map rD)), a2, some (nD st), some (nD own), some (nD L), some (.lst (ds.map nD)), some (.lst (of.map nD)), some (.lst (W.map plD)), o9, some (.lst []), o11, o12, o13] = .ok (.next [a0, some (.lst (nx.map rD)), a2, some (nD st), some (nD own), some (nD L), some (.lst (ds.map nD)), some (.lst (of.map nD)), some (.lst (W.map plD)), o9', some (.lst (t.map rD)), o11', o12', o13']) := by
  obtain ⟨e', q, t, o9', o11', o12', o13', h1, rfl⟩ := forR_inv (b := forB (gnm 9) cpB) (n := st) (e := [a0, some (.lst (nx.map rD)), a2, some (nD st), some (nD own), some (nD L), some (.lst (ds.map nD)), some (.lst (of.map nD)), some (.lst (W.map plD)), o9, some (.lst []), o11, o12, o13])
    (fun s E => ∃ (t : List (List Nat)) (o9' o11' o12' o13' : Option D), Tbl s L st t ∧ E = [a0, some (.lst (nx.map rD)), a2, some (nD st), some (nD own), some (nD L), some (.lst (ds.map nD)), some (.lst (of.map nD)), some (.lst (W.map plD)), o9', some (.lst (t.map rD)), o11', o12', o13']) ⟨[], o9, o11, o12, o13, tbl_nil, rfl⟩ (by
      rintro s E hs ⟨t, o9', o11', o12', o13', h1, rfl⟩
      obtain ⟨r, p12, p13, hr, q⟩ := cp_inner hx hW hof hlt hos hz hL hds hs a0 a2 (some (.lst (t.map rD))) o12' o13'
      have z : (t.map rD).length < SZ := szN (by rw [h1.len]; omega)
      refine ⟨[a0, some (.lst (nx.map rD)), a2, some (nD st), some (nD own), some (nD L), some (.lst (ds.map nD)), some (.lst (of.map nD)), some (.lst (W.map plD)), some (nD s), some (.lst ((t ++ [r]).map rD)), some (.lst (r.map nD)), p12, p13], ?_, t ++ [r], some (nD s), some (.lst (r.map nD)), p12, p13, tbl_snoc h1 hr, rfl⟩
      rw [forB_eq, gnm_eq, lift_some, bind_ok]
      show cpB [a0, some (.lst (nx.map rD)), a2, some (nD st), some (nD own), some (nD L), some (.lst (ds.map nD)), some (.lst (of.map nD)), some (.lst (W.map plD)), some (nD s), some (.lst (t.map rD)), o11', o12', o13'] = _
      unfold cpB
      refine (asg_pass (d := .lst []) (by simp)).trans ?_
      refine (for_pass (irng1_nat (n := L) rfl (rng_lt (by omega))) q).trans ?_
      have m1 : (t ++ [r]).map rD = t.map rD ++ [.tup (r.map nD)] := by
        rw [List.map_append]
        rfl
      rw [m1]
      generalize r.map nD = RR at *
      generalize t.map rD = TT at *
      simp [var, z])
  exact ⟨t, o9', o11', o12', o13', h1, q⟩
end
theorem copied_ok (c : Int) {own st L : Nat} {nx os : List (List Nat)} (h0 : 0 < own) (hos : own ≤ st) (hz : st ≤ 400) (hL : L ≤ 8) (hx : Tbl own L own nx) (ho : Tbl own L 2 os) : ∃ t u, Tbl st L st t ∧ Tbl st L 2 u ∧ m_law_copied [.int c, .lst (nx.map rD), .lst (os.map rD), nD st] = .ok (.lst [.lst (t.map rD), .lst (u.map rD)]) := by
  have hm : st * L ≤ 400 * 8 := Nat.mul_le_mul hz hL
  obtain ⟨ds, hd, q⟩ := draws_ok c (List.replicate (st - own) (own : Int) ++ List.replicate (st * L) (st : Int)) (by simp; omega) (fun s hs => by
    rcases List.mem_append.mp hs with e | e
    · rw [List.eq_of_mem_replicate e]
      omega
    · rw [List.eq_of_mem_replicate e]
      omega)
  obtain ⟨x, y, rfl, hdx, hdy⟩ := drawn_app hd
  obtain ⟨xs, ex, lx, bx⟩ := drawn_low hdx
  obtain ⟨ys, ey, ly, by'⟩ := drawn_low hdy
  have eds : (x ++ y).map D.int = (xs ++ ys).map nD := by rw [List.map_append, List.map_append, ex, ey]
  rw [eds] at q
  have hds : (xs ++ ys).length = st - own + st * L := by rw [List.length_append, lx, ly]
  have hof : (List.range own ++ xs).length = st := by rw [List.length_append, List.length_range, lx]; omega
  have hlt : ∀ v ∈ List.range own ++ xs, v < own := fun v hv => by
    rcases List.mem_append.mp hv with e | e
    · exact List.mem_range.mp e
    · exact bx v e
  have hid : ∀ j, j < own → at1 (List.range own ++ xs) j = j := fun j hj => by
    unfold at1
    rw [List.getD_eq_getElem?_getD, List.getElem?_append_left (by simpa using hj), List.getElem?_range hj]
    rfl
  obtain ⟨W, o9, hW, hsc⟩ := pl_loop hof hlt hid (by omega) (some (.int c)) (some (.lst (nx.map rD))) (some (.lst (os.map rD))) (some (nD st)) (some (nD own)) (some (nD L)) (some (.lst ((xs ++ ys).map nD))) none none none none st 0 (List.replicate own []) none (by omega) pls_0
  rw [Nat.zero_add] at hW
  obtain ⟨t, o9', o11', o12', o13', ht, hcp⟩ := cp_outer hx hW hof hlt hos hz hL hds (some (.int c)) (some (.lst (os.map rD))) o9 none none none
  refine ⟨t, (List.range own ++ xs).map (rw1 os), ht, ⟨by rw [List.length_map, hof], fun r hr => ?_⟩, ?_⟩
  · obtain ⟨v, hv, rfl⟩ := List.mem_map.mp hr
    exact (ho.at (hlt v hv)).2
  have hso : scat 8 9 (irng1 (var 4)) (irng1 (var 3)) (bin oidx (var 7) (var 9)) (var 9) [some (.int c), some (.lst (nx.map rD)), some (.lst (os.map rD)), some (nD st), some (nD own), some (nD L), some (.lst ((xs ++ ys).map nD)), some (.lst ((List.range own ++ xs).map nD)), none, none, none, none, none, none] = .ok (.next [some (.int c), some (.lst (nx.map rD)), some (.lst (os.map rD)), some (nD st), some (nD own), some (nD L), some (.lst ((xs ++ ys).map nD)), some (.lst ((List.range own ++ xs).map nD)), some (.lst (W.map plD)), o9, none, none, none, none]) := by
    unfold scat
    rw [irng1_nat (n := own) rfl (rng_lt (by omega)), noexc_ok, bind_ok, List.length_map, List.length_range, if_pos (by simp; exact le_sz (by omega))]
    have i2 : irng1 (var 3) ([some (D.int c), some (.lst (nx.map rD)), some (.lst (os.map rD)), some (nD st), some (nD own), some (nD L), some (.lst ((xs ++ ys).map nD)), some (.lst ((List.range own ++ xs).map nD)), none, none, none, none, none, none].set 8 none) = .ok ((List.range st).map fun i => .int ((i : Nat) : Int)) := irng1_nat (n := st) rfl (rng_lt (by omega))
    rw [i2, noexc_ok, bind_ok]
    have er : List.range st = List.range' 0 st := List.range_eq_range'
    have ew : (List.replicate own ([] : List Nat)).map inI = List.replicate own [] := by rw [List.map_replicate]; rfl
    rw [ew] at hsc
    rw [er]
    exact hsc
  have l1 : blen (.lst (nx.map rD)) = .ok (nD own) := by rw [lenN, hx.len]
  have i0 : oidx (.lst (nx.map rD)) (.int 0) = .ok (rD (rw1 nx 0)) := idx_tL hx h0
  have l2 : blen (rD (rw1 nx 0)) = .ok (nD L) := (lenT (rw1 nx 0) nD).trans (by rw [(hx.at h0).2.1])
  have r1 : olrep (.lst [nD own]) (nD (st - own)) = .ok (.lst ((List.replicate (st - own) (own : Int)).map D.int)) := rep_one _ _ (by omega)
  have r2 : olrep (.lst [nD st]) (nD (st * L)) = .ok (.lst ((List.replicate (st * L) (st : Int)).map D.int)) := rep_one _ _ (by omega)
  have sb := nsub (a := st) (b := own) hos
  have ml := nmul (a := st) (b := L) (by omega)
  have ad : oadd (.lst ((List.replicate (st - own) (own : Int)).map D.int)) (.lst ((List.replicate (st * L) (st : Int)).map D.int)) = .ok (.lst ((List.replicate (st - own) (own : Int) ++ List.replicate (st * L) (st : Int)).map D.int)) := by
    rw [List.map_append]
    refine if_pos ?_
    rw [List.length_map, List.length_map, List.length_replicate, List.length_replicate]
    exact Nat.le_trans (show _ ≤ 10000 by omega) (by decide)
  have lr : lrngE (irng1 (var 4)) [some (.int c), some (.lst (nx.map rD)), some (.lst (os.map rD)), some (nD st), some (nD own), some (nD L), some (.lst ((xs ++ ys).map nD)), none, none, none, none, none, none, none] = .ok (.lst ((List.range own).map nD)) := by
    unfold lrngE
    rw [irng1_nat (n := own) rfl (rng_lt (by omega)), bind_ok, if_pos (by rw [List.length_map, List.length_range]; omega)]
    rfl
  have sl : slc (var 6) none (some (bin osub (var 3) (var 4))) [some (.int c), some (.lst (nx.map rD)), some (.lst (os.map rD)), some (nD st), some (nD own), some (nD L), some (.lst ((xs ++ ys).map nD)), none, none, none, none, none, none, none] = .ok (.lst (xs.map nD)) := by
    have q1 : oslc (.lst ((xs ++ ys).map nD)) none (some ((st - own : Nat) : Int)) = .ok (.lst (xs.map nD)) := by
      rw [oslc_l, cut_take _ (by rw [List.length_map, hds]; omega), ← List.map_take, List.take_append_of_le_length (by omega), List.take_of_length_le (by omega)]
    change osub (nD st) (nD own) = .ok (.int ((st - own : Nat) : Int)) at sb
    generalize (xs ++ ys).map nD = DD at *
    generalize ((st - own : Nat) : Int) = Z at *
    generalize xs.map nD = XX at *
    generalize nD st = ST at *
    generalize nD own = OW at *
    have bn : ∀ e : Env, slc.bnd none e = .ok none := fun _ => rfl
    simp [var, slc_eq, bnd_some, bn, sb, q1]
  have ad2 : oadd (.lst ((List.range own).map nD)) (.lst (xs.map nD)) = .ok (.lst ((List.range own ++ xs).map nD)) := by
    rw [List.map_append]
    refine if_pos ?_
    rw [List.length_map, List.length_map, List.length_range, lx]
    exact Nat.le_trans (show _ ≤ 10000 by omega) (by decide)
  have lc : lcE (iseq (var 7)) [9] (gnm 9) yes (bin oidx (var 2) (var 9)) [some (.int c), some (.lst (nx.map rD)), some (.lst (os.map rD)), some (nD st), some (nD own), some (nD L), some (.lst ((xs ++ ys).map nD)), some (.lst ((List.range own ++ xs).map nD)), some (.lst (W.map plD)), o9', some (.lst (t.map rD)), o11', o12', o13'] = .ok (.lst (((List.range own ++ xs).map (rw1 os)).map rD)) := by
    rw [List.map_map]
    refine lc_mapI (k := nD) (ys := List.range own ++ xs) rfl (le_sz (by omega)) fun v hv => ⟨_, rfl, ?_⟩
    have q := idx_tL ho (hlt v hv)
    show _ = Res.ok (rD (rw1 os v))
    generalize rD (rw1 os v) = R at *
    generalize os.map rD = OS at *
    generalize nD v = V at *
    simp only [wipe]
    simp [var, q]
  unfold m_law_copied
  rw [fn4]
  show done (seq _ (seq _ (seq _ (seq _ (seq (scat 8 9 (irng1 (var 4)) (irng1 (var 3)) (bin oidx (var 7) (var 9)) (var 9)) (seq _ (seq (for_ (irng1 (var 3)) (gnm 9) cpB) _)))))) [some (.int c), some (.lst (nx.map rD)), some (.lst (os.map rD)), some (nD st), none, none, none, none, none, none, none, none, none, none]) = _
  refine (congrArg done ((asg_pass (d := nD own) ?_).trans ?_)).trans (done_ret (.lst [.lst (t.map rD), .lst (((List.range own ++ xs).map (rw1 os)).map rD)]))
  · generalize nD own = OW at *
    generalize nx.map rD = NX at *
    simp [var, l1]
  refine (asg_pass (d := nD L) ?_).trans ?_
  · generalize nD L = LL at *
    generalize rD (rw1 nx 0) = RW at *
    generalize nx.map rD = NX at *
    simp [var, i0, l2]
  refine (asg_pass (d := .lst ((xs ++ ys).map nD)) ?_).trans ?_
  · generalize (xs ++ ys).map nD = DD at *
    generalize (List.replicate (st - own) (own : Int) ++ List.replicate (st * L) (st : Int)).map D.int = RR at *
    generalize (List.replicate (st - own) (own : Int)).map D.int = R1 at *
    generalize (List.replicate (st * L) (st : Int)).map D.int = R2 at *
    generalize nD (st - own) = I1 at *
    generalize nD (st * L) = I2 at *
    generalize nD st = ST at *
    generalize nD own = OW at *
    generalize nD L = LL at *
    simp [var, r1, r2, sb, ml, ad, q]
  refine (asg_pass (d := .lst ((List.range own ++ xs).map nD)) ?_).trans ?_
  · show ((lrngE (irng1 (var 4)) [some (.int c), some (.lst (nx.map rD)), some (.lst (os.map rD)), some (nD st), some (nD own), some (nD L), some (.lst ((xs ++ ys).map nD)), none, none, none, none, none, none, none]) >>= fun a => (slc (var 6) none (some (bin osub (var 3) (var 4))) [some (.int c), some (.lst (nx.map rD)), some (.lst (os.map rD)), some (nD st), some (nD own), some (nD L), some (.lst ((xs ++ ys).map nD)), none, none, none, none, none, none, none]) >>= fun b => oadd a b) = _
    rw [lr, sl, bind_ok, bind_ok, ad2]
  refine (seq_next hso).trans ?_
  refine (asg_pass (d := .lst []) (by simp)).trans ?_
  refine (for_pass (irng1_nat (n := st) rfl (rng_lt (by omega))) hcp).trans ?_
  rw [ret_eq, lstE_eq, argC_eq, argC_eq, argN_eq, lc]
  rfl
end Py.U
namespace Py.U
open PySem
abbrev Pr := List (List Nat) × List (List Nat)
def pairL (p : Pr) : D := .lst [.lst (p.1.map rD), .lst (p.2.map rD)]
theorem pair0 (p : Pr) : oidx (pairL p) (.int 0) = .ok (.lst (p.1.map rD)) := oidx_l (k := 0) rfl
theorem pair1 (p : Pr) : oidx (pairL p) (.int 1) = .ok (.lst (p.2.map rD)) := oidx_l (k := 1) rfl
theorem table_at (ns : List Int) (k : Nat) {n S B : Nat} (h1 : 1 ≤ n) (h3 : n ≤ 3) (h0 : 0 < B) (hB : B ≤ 1000) (hS : S ≤ 20) : ∃ (c : Int) (t : List (List Nat)), Tbl S (2 ^ n) B t ∧ m_law_cell [.lst (ns.map .int), .int (k : Int)] = .ok (.int c) ∧ m_law_table [.int c, nD S, nD (2 ^ n), nD B] = .ok (.lst (t.map rD)) := by
  have p8 := pow3 h1 h3
  obtain ⟨c, hc⟩ := cell_ok ns k
  obtain ⟨t, t1, t2⟩ := table_ok c (S := S) (L := 2 ^ n) (B := B) (by omega) (by omega) (by omega)
  exact ⟨c, t, t1, hc, t2⟩
/-! ### one place spoilt -/
theorem tbl_set {S L B a : Nat} {t : List (List Nat)} (h : Tbl S L B t) {r : List Nat} (hr : r.length = L ∧ ∀ x ∈ r, x < B) : Tbl S L B (t.set a r) := ⟨by rw [List.length_set, h.len], fun x hx => by
  rcases List.mem_or_eq_of_mem_set hx with q | q
  · exact h.row x q
  · rw [q]
    exact hr⟩
theorem row_set {L B l v : Nat} {r : List Nat} (hr : r.length = L ∧ ∀ x ∈ r, x < B) (hv : v < B) : (r.set l v).length = L ∧ ∀ x ∈ r.set l v, x < B := ⟨by rw [List.length_set, hr.1], fun x hx => by
  rcases List.mem_or_eq_of_mem_set hx with q | q
  · exact hr.2 x q
  · rw [q]
    exact hv⟩
def spA : SM := (seq (asg (gnm 6) (un blist (bin oidx (var 3) (var 4))))
  (seq (setL 6 (var 5) (bin osub (cst (.int 1)) (bin oidx (var 6) (var 5))))
  (setL 3 (var 4) (un btuple (var 6)))))
def spB : SM := (seq (asg (gnm 6) (un blist (bin oidx (var 2) (var 4))))
  (seq (setL 6 (var 5) (bin omod (bin oadd (bin oadd (bin oidx (var 6) (var 5)) (cst (.int 1))) (bin omod (bin oidx (var 1) (cst (.int 3))) (bin osub (un blen (var 2)) (cst (.int 1))))) (un blen (var 2))))
  (setL 2 (var 4) (un btuple (var 6)))))
section
variable {S L : Nat} {nx os : List (List Nat)}
theorem spA_ok (h : Tbl S L S nx) (ho : Tbl S L 2 os) {a l : Nat} (ha : a < S) (hl : l < L) (P DS : D) : ∃ t u o6, Tbl S L S t ∧ Tbl S L 2 u ∧ spA [some P, some DS, some (.lst (nx.map rD)), some (.lst (os.map rD)), some (nD a), some (nD l), none] = .ok (.next [some P, some DS, some (.lst (t.map rD)), some (.lst (u.map rD)), some (nD a), some (nD l), o6]) := by
  have r := (ho.at ha).2
  have e1 := idx_tL ho ha
  have e2 : blist (rD (rw1 os a)) = .ok (.lst ((rw1 os a).map nD)) := rfl
  have e3 := idx_nL (c := rw1 os a) (i := l) (by omega)
  have hb : at1 (rw1 os a) l < 2 := r.2 _ (at1_mem (by omega))
  have e4 : osub (.int 1) (nD (at1 (rw1 os a) l)) = .ok (nD (1 - at1 (rw1 os a) l)) := nsub (a := 1) (by omega)
  have r2 := row_set (l := l) r (show 1 - at1 (rw1 os a) l < 2 by omega)
  have s1 : ((rw1 os a).map nD).set l (nD (1 - at1 (rw1 os a) l)) = ((rw1 os a).set l (1 - at1 (rw1 os a) l)).map nD := List.map_set.symm
  have s2 : (os.map rD).set a (rD ((rw1 os a).set l (1 - at1 (rw1 os a) l))) = (os.set a ((rw1 os a).set l (1 - at1 (rw1 os a) l))).map rD := List.map_set.symm
  refine ⟨nx, os.set a ((rw1 os a).set l (1 - at1 (rw1 os a) l)), some (.lst (((rw1 os a).set l (1 - at1 (rw1 os a) l)).map nD)), h, tbl_set ho r2, ?_⟩
  unfold spA
  refine (asg_pass (d := .lst ((rw1 os a).map nD)) ?_).trans ?_
  · generalize (rw1 os a).map nD = RR at *
    generalize rD (rw1 os a) = R at *
    generalize os.map rD = OS at *
    generalize nD a = A at *
    simp [var, e1, e2]
  refine (seq_next (e' := [some P, some DS, some (.lst (nx.map rD)), some (.lst (os.map rD)), some (nD a), some (nD l), some (.lst (((rw1 os a).set l (1 - at1 (rw1 os a) l)).map nD))]) ?_).trans ?_
  · rw [← s1]
    refine setL_ok (k := l) rfl ?_ rfl (by rw [List.length_map]; omega)
    generalize nD (1 - at1 (rw1 os a) l) = X at *
    generalize nD (at1 (rw1 os a) l) = Y at *
    generalize (rw1 os a).map nD = RR at *
    generalize nD l = LL at *
    simp [var, e3, e4]
  · rw [← s2]
    exact setL_ok (k := a) rfl rfl rfl (by rw [List.length_map, ho.len]; exact ha)
theorem spB_ok (h : Tbl S L S nx) (ho : Tbl S L 2 os) {a l : Nat} (ha : a < S) (hl : l < L) (h2 : 2 ≤ S) (hS : S ≤ 1000) (P : D) {DS : D} {d3 : Int} (i3 : oidx DS (.int 3) = .ok (.int d3)) : ∃ t u o6, Tbl S L S t ∧ Tbl S L 2 u ∧ spB [some P, some DS, some (.lst (nx.map rD)), some (.lst (os.map rD)), some (nD a), some (nD l), none] = .ok (.next [some P, some DS, some (.lst (t.map rD)), some (.lst (u.map rD)), some (nD a), some (nD l), o6]) := by
  have r := (h.at ha).2
  have e1 := idx_tL h ha
  have e2 : blist (rD (rw1 nx a)) = .ok (.lst ((rw1 nx a).map nD)) := rfl
  have e3 := idx_nL (c := rw1 nx a) (i := l) (by omega)
  have e4 : osub (nD S) (.int 1) = .ok (nD (S - 1)) := nsub (a := S) (b := 1) (by omega)
  obtain ⟨q, hq, e5⟩ := mod_nD d3 (n := S - 1) (by omega)
  have e6 : oadd (nD (at1 (rw1 nx a) l)) (.int 1) = .ok (nD (at1 (rw1 nx a) l + 1)) := nadd _ 1
  have e7 := nadd (at1 (rw1 nx a) l + 1) q
  obtain ⟨v, hv, e8⟩ := mod_nD ((at1 (rw1 nx a) l + 1 + q : Nat) : Int) (n := S) (by omega)
  change omod (nD _) _ = _ at e8
  have e9 : blen (.lst (nx.map rD)) = .ok (nD S) := by rw [lenN, h.len]
  have r2 := row_set (l := l) r hv
  have s1 : ((rw1 nx a).map nD).set l (nD v) = ((rw1 nx a).set l v).map nD := List.map_set.symm
  have s2 : (nx.map rD).set a (rD ((rw1 nx a).set l v)) = (nx.set a ((rw1 nx a).set l v)).map rD := List.map_set.symm
  refine ⟨nx.set a ((rw1 nx a).set l v), os, some (.lst (((rw1 nx a).set l v).map nD)), tbl_set h r2, ho, ?_⟩
  unfold spB
  refine (asg_pass (d := .lst ((rw1 nx a).map nD)) ?_).trans ?_
  · generalize (rw1 nx a).map nD = RR at *
    generalize rD (rw1 nx a) = R at *
    generalize nx.map rD = OS at *
    generalize nD a = A at *
    simp [var, e1, e2]
  refine (seq_next (e' := [some P, some DS, some (.lst (nx.map rD)), some (.lst (os.map rD)), some (nD a), some (nD l), some (.lst (((rw1 nx a).set l v).map nD))]) ?_).trans ?_
  · rw [← s1]
    refine setL_ok (k := l) rfl ?_ rfl (by rw [List.length_map]; omega)
    generalize nD (at1 (rw1 nx a) l + 1 + q) = X2 at *
    generalize nD (at1 (rw1 nx a) l + 1) = X at *
    generalize nD (at1 (rw1 nx a) l) = Y at *
    generalize (rw1 nx a).map nD = RR at *
    generalize nx.map rD = OS at *
    generalize nD (S - 1) = S1 at *
    generalize nD S = SS at *
    generalize nD q = Q at *
    generalize nD v = V at *
    generalize nD l = LL at *
    simp [var, i3, e3, e4, e5, e6, e7, e8, e9]
  · rw [← s2]
    exact setL_ok (k := a) rfl rfl rfl (by rw [List.length_map, h.len]; exact ha)
theorem spoilt_ok (h : Tbl S L S nx) (ho : Tbl S L 2 os) (h0 : 0 < S) (hS : S ≤ 1000) (hL0 : 0 < L) (d0 d1 d2 d3 : Int) : ∃ t u, Tbl S L S t ∧ Tbl S L 2 u ∧ m_law_spoilt [pairL (nx, os), .lst [.int d0, .int d1, .int d2, .int d3]] = .ok (pairL (t, u)) := by
  obtain ⟨a, ha, ea⟩ := mod_nD d1 h0
  obtain ⟨l, hl, el⟩ := mod_nD d2 hL0
  generalize hDS : D.lst [.int d0, .int d1, .int d2, .int d3] = DS
  have i0 : oidx DS (.int 0) = .ok (.int d0) := by rw [← hDS]; rfl
  have i1 : oidx DS (.int 1) = .ok (.int d1) := by rw [← hDS]; rfl
  have i2 : oidx DS (.int 2) = .ok (.int d2) := by rw [← hDS]; rfl
  have i3 : oidx DS (.int 3) = .ok (.int d3) := by rw [← hDS]; rfl
  have m0 : omod (.int d0) (.int 2) = .ok (.int (d0 % 2)) := omod_ii (by decide)
  have b0 : blen (.lst (nx.map rD)) = .ok (nD S) := by rw [lenN, h.len]
  have b1 : oidx (.lst (nx.map rD)) (.int 0) = .ok (rD (rw1 nx 0)) := idx_tL (i := 0) h h0
  have b2 : blen (rD (rw1 nx 0)) = .ok (nD L) := (lenT (rw1 nx 0) nD).trans (by rw [(h.at h0).2.1])
  have b3 : oeq (nD S) (.int 1) = .ok (.bl (decide (S = 1))) := nat_eqN S 1
  have P0 := pair0 (nx, os)
  have P1 := pair1 (nx, os)
  dsimp only at P0 P1
  have pre : ∀ w, done (seq (Py.ite (orT (tst (bin oeq (bin omod (bin oidx (var 1) (cst (.int 0))) (cst (.int 2))) (cst (.int 0)))) (tst (bin oeq (un blen (var 2)) (cst (.int 1))))) spA spB) (ret (lstE (argC (var 2) (argC (var 3) argN)))) [some (pairL (nx, os)), some DS, some (.lst (nx.map rD)), some (.lst (os.map rD)), some (nD a), some (nD l), none]) = w → m_law_spoilt [pairL (nx, os), DS] = w := fun w hw => by
    rw [← hw]
    unfold m_law_spoilt
    rw [fn2]
    unfold b__law_spoilt
    refine congrArg done ?_
    refine (asg_pass (d := .lst (nx.map rD)) ?_).trans ?_
    · generalize pairL (nx, os) = PP at *
      simp [var, P0]
    refine (asg_pass (d := .lst (os.map rD)) ?_).trans ?_
    · generalize pairL (nx, os) = PP at *
      simp [var, P1]
    refine (asg_pass (d := nD a) ?_).trans ?_
    · generalize nx.map rD = NX at *
      generalize nD S = SS at *
      generalize nD a = A at *
      simp [var, i1, b0, ea]
    refine (asg_pass (d := nD l) ?_).trans ?_
    · generalize nx.map rD = NX at *
      generalize rD (rw1 nx 0) = R0 at *
      generalize nD L = LL at *
      generalize nD l = A at *
      simp [var, i2, b1, b2, el]
    rfl
  have fin : ∀ {t u : List (List Nat)} {o6 : Option D} {x : Bool}, (orT (tst (bin oeq (bin omod (bin oidx (var 1) (cst (.int 0))) (cst (.int 2))) (cst (.int 0)))) (tst (bin oeq (un blen (var 2)) (cst (.int 1))))) [some (pairL (nx, os)), some DS, some (.lst (nx.map rD)), some (.lst (os.map rD)), some (nD a), some (nD l), none] = .ok x → (if x then spA else spB) [some (pairL (nx, os)), some DS, some (.lst (nx.map rD)), some (.lst (os.map rD)), some (nD a), some (nD l), none] = .ok (.next [some (pairL (nx, os)), some DS, some (.lst (t.map rD)), some (.lst (u.map rD)), some (nD a), some (nD l), o6]) → m_law_spoilt [pairL (nx, os), DS] = .ok (pairL (t, u)) := fun {t u o6 x} h1 h2 => by
    refine pre _ ?_
    refine (congrArg done ((seq_next (e' := [some (pairL (nx, os)), some DS, some (.lst (t.map rD)), some (.lst (u.map rD)), some (nD a), some (nD l), o6]) ?_).trans ?_)).trans (done_ret (pairL (t, u)))
    · rw [ite_eq, h1, bind_ok]
      cases x
      · exact h2
      · exact h2
    · show (lstE (argC (var 2) (argC (var 3) argN)) [some (pairL (nx, os)), some DS, some (.lst (t.map rD)), some (.lst (u.map rD)), some (nD a), some (nD l), o6] >>= _) = _
      unfold pairL
      generalize t.map rD = TT at *
      generalize u.map rD = UU at *
      simp [var]
  by_cases c : d0 % 2 = 0 ∨ S = 1
  · obtain ⟨t, u, o6, t1, t2, t3⟩ := spA_ok h ho ha hl (pairL (nx, os)) DS
    refine ⟨t, u, t1, t2, fin (x := true) ?_ t3⟩
    generalize nx.map rD = NX at *
    generalize nD S = SS at *
    by_cases c1 : d0 % 2 = 0
    · simp [var, i0, m0, c1]
    · have c2 : S = 1 := by omega
      simp [var, i0, m0, c1, b0, b3, c2]
  · have c1 : ¬ d0 % 2 = 0 := fun z => c (.inl z)
    have c2 : ¬ S = 1 := fun z => c (.inr z)
    obtain ⟨t, u, o6, t1, t2, t3⟩ := spB_ok h ho ha hl (by omega) hS (pairL (nx, os)) i3
    refine ⟨t, u, t1, t2, fin (x := false) ?_ t3⟩
    generalize nx.map rD = NX at *
    generalize nD S = SS at *
    simp [var, i0, m0, c1, b0, b3, c2]
end
end Py.U
namespace Py.U
open PySem
/-! ### the first unlike letter, the way back -/
def fuT : TM := tst (bin oeq (bin oidx (var 0) (var 2)) (bin oidx (var 1) (var 2)))
def fuW : SM := aug 2 oiadd (cst (.int 1))
theorem ful_loop {L : Nat} {r r' : List Nat} (h1 : r.length = L) (h2 : r'.length = L) (hne : r ≠ r') : ∀ (k fu a : Nat), a + k = fstU L r r' → k < fu → whileL fuT fuW fu [some (rD r), some (rD r'), some (nD a)] = .ok (.next [some (rD r), some (rD r'), some (nD (fstU L r r'))])
  | k, 0, a, _, hf => by omega
  | k, fu + 1, a, ha, hf => by
    obtain ⟨u1, u2, u3⟩ := fstU_ok h1 h2 hne
    have e1 := idx_nT (c := r) (i := a) (by omega)
    have e2 := idx_nT (c := r') (i := a) (by omega)
    have e3 := nat_eqN (at1 r a) (at1 r' a)
    have ht : fuT [some (rD r), some (rD r'), some (nD a)] = .ok (decide (at1 r a = at1 r' a)) := by
      unfold fuT
      generalize nD (at1 r a) = X at *
      generalize nD (at1 r' a) = Y at *
      generalize rD r = R at *
      generalize rD r' = R' at *
      generalize nD a = A at *
      simp [var, e1, e2, e3]
    cases k with
    | zero =>
      have : a = fstU L r r' := by omega
      rw [← this] at u2
      rw [decide_eq_false u2] at ht
      rw [wh_stop ht, this]
    | succ k =>
      rw [decide_eq_true (u3 a (by omega))] at ht
      have hb : fuW [some (rD r), some (rD r'), some (nD a)] = .ok (.next [some (rD r), some (rD r'), some (nD (a + 1))]) := by
        have e4 : oiadd (nD a) (.int 1) = .ok (nD (a + 1)) := rfl
        unfold fuW
        generalize nD (a + 1) = A1 at *
        generalize nD a = A at *
        simp [var, e4]
      rw [wh_next ht hb]
      exact ful_loop h1 h2 hne k fu (a + 1) (by omega) (by omega)
theorem ful_ok {L : Nat} {r r' : List Nat} (h1 : r.length = L) (h2 : r'.length = L) (hne : r ≠ r') (hL : L ≤ 1000) : m_first_unlike_letter [rD r, rD r'] = .ok (nD (fstU L r r')) := by
  obtain ⟨u1, _, _⟩ := fstU_ok h1 h2 hne
  have q := ful_loop h1 h2 hne (fstU L r r') FUEL 0 (by omega) (Nat.lt_of_lt_of_le (show fstU L r r' < 1000 by omega) (by decide))
  unfold m_first_unlike_letter
  rw [fn2]
  unfold b_first_unlike_letter
  refine (congrArg done ((asg_pass (d := nD 0) rfl).trans ?_)).trans (done_ret (nD (fstU L r r')))
  refine (seq_next (e' := [some (rD r), some (rD r'), some (nD (fstU L r r'))]) q).trans ?_
  rfl
def wbT : TM := tst (un onotN (var 3))
def wbW : SM := (seq (app 2 (bin oidx (var 3) (cst (.int 1))))
  (asg (gnm 3) (bin oidx (var 0) (bin oidx (var 3) (cst (.int 0))))))
theorem wb_loop {gs : P2 → List (Nat × P2)} {b : P2} {F : List Nd} {A : Nat} (h : Wf gs b F A) (G : D) : ∀ (j fu : Nat) (n : Nd) (acc : List Nat), F[j]? = some n → j < fu → acc.length + n.2.2.length < SZ →
    whileL wbT wbW fu [some (ways F), some G, some (.lst (acc.map nD)), some (wayD n.2.1)] = .ok (.next [some (ways F), some G, some (.lst ((acc ++ n.2.2.reverse).map nD)), some .non]) := by
  intro j
  induction j using Nat.strongRecOn with
  | ind j ih =>
    intro fu n acc hn hf hz
    cases fu with
    | zero => omega
    | succ fu =>
      rcases h.par j n hn with rfl | ⟨i, m, l, i1, i2, i3, i4, i5⟩
      · have := Option.some.inj (hn.symm.trans h.hd)
        subst this
        have ht : wbT [some (ways F), some G, some (.lst (acc.map nD)), some .non] = .ok false := by
          unfold wbT
          simp [var]
          rfl
        show whileL wbT wbW (fu + 1) [some (ways F), some G, some (.lst (acc.map nD)), some .non] = _
        rw [wh_stop ht]
        simp
      · have ew : wayD n.2.1 = .tup [kp2 m.1, nD l] := by rw [i4]; rfl
        have er : n.2.2 = m.2.2 ++ [l] := by rw [i4]
        rw [er, List.length_append, List.length_singleton] at hz
        rw [ew, er]
        have ht : wbT [some (ways F), some G, some (.lst (acc.map nD)), some (.tup [kp2 m.1, nD l])] = .ok true := by
          unfold wbT
          simp [var]
          rfl
        have e0 : oidx (.tup [kp2 m.1, nD l]) (.int 0) = .ok (kp2 m.1) := rfl
        have e1 : oidx (.tup [kp2 m.1, nD l]) (.int 1) = .ok (nD l) := rfl
        have e2 := ways_get h.nd i3
        have z : (acc.map nD).length < SZ := by rw [List.length_map]; omega
        have hb : wbW [some (ways F), some G, some (.lst (acc.map nD)), some (.tup [kp2 m.1, nD l])] = .ok (.next [some (ways F), some G, some (.lst ((acc ++ [l]).map nD)), some (wayD m.2.1)]) := by
          rw [List.map_append, List.map_singleton]
          unfold wbW
          generalize wayD m.2.1 = WD at *
          generalize D.tup [kp2 m.1, nD l] = T at *
          generalize nD l = LL at *
          generalize kp2 m.1 = KK at *
          generalize ways F = WF at *
          generalize acc.map nD = AC at *
          simp [var, e0, e1, e2, z]
        rw [wh_next ht hb]
        have := ih i i1 fu m (acc ++ [l]) i3 (by omega) (by rw [List.length_append, List.length_singleton]; omega)
        rw [this]
        simp
theorem way_ok {gs : P2 → List (Nat × P2)} {b : P2} {F : List Nd} {A : Nat} (h : Wf gs b F A) {j : Nat} {n : Nd} (hn : F[j]? = some n) (hj : j < 1000000) (hz : n.2.2.length < 1000000) : m_way_back [ways F, kp2 n.1] = .ok (rD n.2.2) := by
  have q := wb_loop h (kp2 n.1) j FUEL n [] hn (Nat.lt_of_lt_of_le hj (by decide)) (Nat.lt_of_lt_of_le (show _ < 1000000 by simpa using hz) (by decide))
  rw [List.nil_append] at q
  have e1 := ways_get h.nd hn
  have e2 : orev (.lst (n.2.2.reverse.map nD)) = .ok (.lst (n.2.2.map nD)) := by
    show Res.ok (D.lst (n.2.2.reverse.map nD).reverse) = _
    rw [← List.map_reverse, List.reverse_reverse]
  unfold m_way_back
  rw [fn2]
  unfold b_way_back
  refine (congrArg done ((asg_pass (d := .lst []) (by simp)).trans ?_)).trans (done_ret (rD n.2.2))
  refine (asg_pass (d := wayD n.2.1) ?_).trans ?_
  · generalize wayD n.2.1 = WD at *
    generalize ways F = WF at *
    generalize kp2 n.1 = KK at *
    simp [var, e1]
  refine (seq_next (e' := [some (ways F), some (kp2 n.1), some (.lst (n.2.2.reverse.map nD)), some .non]) q).trans ?_
  have e3 : rD n.2.2 = .tup (n.2.2.map nD) := rfl
  rw [e3]
  generalize n.2.2.reverse.map nD = RR at *
  generalize n.2.2.map nD = R2 at *
  simp [var, e2]
end Py.U
namespace Py.U
open PySem
/-! ### the program's search -/
def pD (n : Nd) : D := kp2 n.1
def fsI : SM := (Py.ite (tst (bin onotin (var 9) (var 3))) (seq (setL 3 (var 9) (tupE (argC (bin oidx (var 4) (var 5)) (argC (var 8) argN))))
  (app 4 (var 9))) skip)
theorem fs_step {M1 M2 B0 : D} {f : List Nd} {a : Nat} {n : Nd} (hn : f[a]? = some n) (hz : f.length < SZ) (g : Nat × P2) (o6 o7 o8 o9 : Option D) :
    forB (gtup [(gnm 8), (gnm 9)]) fsI (.tup [nD g.1, kp2 g.2]) [some M1, some M2, some B0, some (ways f), some (.lst (f.map pD)), some (nD a), o6, o7, o8, o9] = .ok (.next [some M1, some M2, some B0, some (ways (addG n.1 n.2.2 f g)), some (.lst ((addG n.1 n.2.2 f g).map pD)), some (nD a), o6, o7, some (nD g.1), some (kp2 g.2)]) := by
  rw [forB_eq]
  show (lift (some [some M1, some M2, some B0, some (ways f), some (.lst (f.map pD)), some (nD a), o6, o7, some (nD g.1), some (kp2 g.2)]) >>= fsI) = _
  rw [lift_some, bind_ok]
  unfold addG
  by_cases c : g.2 ∈ f.map (·.1)
  · rw [if_pos c]
    have e1 := ways_has c
    unfold fsI
    generalize ways f = WF at *
    generalize f.map pD = FP at *
    generalize nD a = A at *
    generalize nD g.1 = G1 at *
    generalize kp2 g.2 = G2 at *
    simp [var, e1]
  · rw [if_neg c]
    have e1 := ways_not c
    have e2 : oidx (.lst (f.map pD)) (nD a) = .ok (kp2 n.1) := oidx_l (by rw [List.getElem?_map, hn]; rfl)
    have z : (f.map pD).length < SZ := by rw [List.length_map]; exact hz
    have sl : setL 3 (var 9) (tupE (argC (bin oidx (var 4) (var 5)) (argC (var 8) argN))) [some M1, some M2, some B0, some (ways f), some (.lst (f.map pD)), some (nD a), o6, o7, some (nD g.1), some (kp2 g.2)] = .ok (.next [some M1, some M2, some B0, some (ways (f ++ [(g.2, some (n.1, g.1), n.2.2 ++ [g.1])])), some (.lst (f.map pD)), some (nD a), o6, o7, some (nD g.1), some (kp2 g.2)]) := by
      refine ways_put (w := some (n.1, g.1)) rfl ?_ rfl c hz
      show _ = Res.ok (D.tup [kp2 n.1, nD g.1])
      generalize kp2 n.1 = K1 at *
      generalize f.map pD = FP at *
      generalize nD a = A at *
      generalize nD g.1 = G1 at *
      simp only [var, tupE_eq, argC_eq, argN_eq, bin_eq, List.getElem?_cons_succ, List.getElem?_cons_zero, bind_ok, e2, List.length_cons, List.length_nil, Nat.zero_add, Nat.reduceAdd, chk_2]
    have ef : (f ++ [(g.2, some (n.1, g.1), n.2.2 ++ [g.1])]).map pD = f.map pD ++ [kp2 g.2] := by
      rw [List.map_append]
      rfl
    rw [ef]
    unfold fsI
    generalize ways (f ++ [(g.2, some (n.1, g.1), n.2.2 ++ [g.1])]) = W2 at *
    generalize ways f = WF at *
    generalize f.map pD = FP at *
    generalize nD a = A at *
    generalize nD g.1 = G1 at *
    generalize kp2 g.2 = G2 at *
    simp [var, e1, sl, z]
theorem fs_inner {M1 M2 B0 : D} {a : Nat} {n : Nd} : ∀ (gs : List (Nat × P2)) (f : List Nd) (o6 o7 o8 o9 : Option D), f[a]? = some n → f.length + gs.length < SZ →
    ∃ o8' o9', forL (forB (gtup [(gnm 8), (gnm 9)]) fsI) (gs.map fun g => .tup [nD g.1, kp2 g.2]) [some M1, some M2, some B0, some (ways f), some (.lst (f.map pD)), some (nD a), o6, o7, o8, o9] = .ok (.next [some M1, some M2, some B0, some (ways (stepG f n gs)), some (.lst ((stepG f n gs).map pD)), some (nD a), o6, o7, o8', o9'])
  | [], f, o6, o7, o8, o9, _, _ => ⟨o8, o9, rfl⟩
  | g :: gs, f, o6, o7, o8, o9, hn, hz => by
    rw [List.length_cons] at hz
    have h1 := fs_step (M1 := M1) (M2 := M2) (B0 := B0) hn (by omega) g o6 o7 o8 o9
    have ha := (List.getElem?_eq_some_iff.mp hn).1
    have h2 : (addG n.1 n.2.2 f g)[a]? = some n ∧ (addG n.1 n.2.2 f g).length ≤ f.length + 1 := by
      unfold addG
      split
      · exact ⟨hn, Nat.le_succ _⟩
      · exact ⟨by rw [List.getElem?_append_left ha]; exact hn, by simp⟩
    obtain ⟨o8', o9', h3⟩ := fs_inner (M1 := M1) (M2 := M2) (B0 := B0) gs (addG n.1 n.2.2 f g) o6 o7 (some (nD g.1)) (some (kp2 g.2)) h2.1 (by omega)
    refine ⟨o8', o9', ?_⟩
    rw [List.map_cons, forL, h1]
    exact h3
theorem enum_gs {L : Nat} {nx1 nx2 : List (List Nat)} {p : P2} (h1 : (rw1 nx1 p.1).length = L) (h2 : (rw1 nx2 p.2).length = L) : enumL 0 ((((rw1 nx1 p.1).map nD).zip ((rw1 nx2 p.2).map nD)).map fun x => D.tup [x.1, x.2]) = (gsP L nx1 nx2 p).map fun g => D.tup [nD g.1, kp2 g.2] := by
  apply List.ext_getElem
  · rw [enum_len]
    unfold gsP
    simp [h1, h2]
  · intro i a b
    have b2 : i < L := by
      unfold gsP at b
      simpa using b
    have a2 : i < ((((rw1 nx1 p.1).map nD).zip ((rw1 nx2 p.2).map nD)).map fun x => D.tup [x.1, x.2]).length := by
      simp [h1, h2]
      exact b2
    have eR : ((gsP L nx1 nx2 p).map fun g => D.tup [nD g.1, kp2 g.2])[i] = D.tup [nD i, kp2 (at1 (rw1 nx1 p.1) i, at1 (rw1 nx2 p.2) i)] := by simp [gsP]
    rw [enum_at a a2, eR]
    simp only [List.getElem_map, List.getElem_zip]
    have q1 : at1 (rw1 nx1 p.1) i = (rw1 nx1 p.1)[i]'(by omega) := by
      unfold at1
      rw [List.getD_eq_getElem?_getD, List.getElem?_eq_getElem (by omega)]
      rfl
    have q2 : at1 (rw1 nx2 p.2) i = (rw1 nx2 p.2)[i]'(by omega) := by
      unfold at1
      rw [List.getD_eq_getElem?_getD, List.getElem?_eq_getElem (by omega)]
      rfl
    unfold kp2
    rw [q1, q2, Nat.zero_add]
    rfl
end Py.U
namespace Py.U
open PySem
theorem plain_nD (k n : Nat) : pl k (nD n) = true := by
  unfold nD
  cases k <;> rfl
theorem plain_rD (r : List Nat) : plain (rD r) = true := by
  show pl 64 (.tup (r.map nD)) = true
  simp only [pl, List.all_map, List.all_eq_true]
  exact fun x _ => plain_nD _ x
theorem one_rD (r r' : List Nat) : Py.one (rD r) (rD r') = .ok (.bl (decide (r ≠ r'))) := by
  unfold Py.one
  rw [plain_rD, plain_rD, rD_eq]
  show Res.ok (D.bl (!decide (r = r'))) = _
  by_cases c : r = r' <;> simp [c]
def fsT : TM := tst (bin olt (var 5) (un blen (var 4)))
def fsW : SM := (seq (asg (gtup [(gnm 6), (gnm 7)]) (bin oidx (var 4) (var 5)))
  (seq (Py.ite (tst (bin Py.one (bin oidx (un (oattr ["Machine"] "outs") (var 0)) (var 6)) (bin oidx (un (oattr ["Machine"] "outs") (var 1)) (var 7)))) (ret (tupE (argS (call m_way_back (argC (var 3) (argC (bin oidx (var 4) (var 5)) argN))) (argC (call m_first_unlike_letter (argC (bin oidx (un (oattr ["Machine"] "outs") (var 0)) (var 6)) (argC (bin oidx (un (oattr ["Machine"] "outs") (var 1)) (var 7)) argN))) argN)))) skip)
  (seq (for_ (ienumM (izip (bin oidx (un (oattr ["Machine"] "nexts") (var 0)) (var 6)) (bin oidx (un (oattr ["Machine"] "nexts") (var 1)) (var 7)))) (gtup [(gnm 8), (gnm 9)]) fsI)
  (aug 5 oiadd (cst (.int 1))))))
section
variable {S1 S2 L B : Nat} {nx1 os1 nx2 os2 : List (List Nat)} {m1 m2 : Nat}
theorem fs_loop (h1 : Tbl S1 L S1 nx1) (h2 : Tbl S2 L S2 nx2) (o1 : Tbl S1 L B os1) (o2 : Tbl S2 L B os2) (hL : L ≤ 1000) {U : Nat} (hU : S1 * S2 ≤ U) (hU2 : U ≤ 900000) {b : P2} (hb : b.1 < S1 ∧ b.2 < S2) : ∀ (k fu : Nat) (f : List Nd) (a : Nat) (o6 o7 o8 o9 : Option D), Wf (gsP L nx1 nx2) b f a → a ≤ f.length → U ≤ a + k → k < fu →
    (bfsP (badP os1 os2) (gsP L nx1 nx2) k f a = none → ∃ e', whileL fsT fsW fu [some (macD m1 nx1 os1), some (macD m2 nx2 os2), some (kp2 b), some (ways f), some (.lst (f.map pD)), some (nD a), o6, o7, o8, o9] = .ok (.next e')) ∧
    ∀ F A n, bfsP (badP os1 os2) (gsP L nx1 nx2) k f a = some (F, A) → F[A]? = some n → n.2.2.length < 1000000 → whileL fsT fsW fu [some (macD m1 nx1 os1), some (macD m2 nx2 os2), some (kp2 b), some (ways f), some (.lst (f.map pD)), some (nD a), o6, o7, o8, o9] = .ok (.ret (rD (readP L os1 os2 n)))
  | k, 0, f, a, _, _, _, _, _, _, _, hf => by omega
  | k, fu + 1, f, a, o6, o7, o8, o9, hw, hal, hk, hf => by
    have hlf := hw.size h1 h2 hb
    have e1 := lenN f pD
    have e2 := oltN a f.length
    have ht : fsT [some (macD m1 nx1 os1), some (macD m2 nx2 os2), some (kp2 b), some (ways f), some (.lst (f.map pD)), some (nD a), o6, o7, o8, o9] = .ok (decide (a < f.length)) := by
      unfold fsT
      generalize f.map pD = FP at *
      generalize nD a = AA at *
      generalize nD f.length = FL at *
      simp [var, e1, e2]
    cases hfa : f[a]? with
    | none =>
      have ha : ¬ a < f.length := fun c => by
        rw [List.getElem?_eq_getElem c] at hfa
        cases hfa
      rw [decide_eq_false ha] at ht
      have en : bfsP (badP os1 os2) (gsP L nx1 nx2) k f a = none := by
        cases k with
        | zero => rfl
        | succ k => rw [bfsP, hfa]
      rw [en]
      exact ⟨fun _ => ⟨_, wh_stop ht⟩, fun F A n h => by cases h⟩
    | some n =>
      have ha := (List.getElem?_eq_some_iff.mp hfa).1
      rw [decide_eq_true ha] at ht
      cases k with
      | zero => omega
      | succ k =>
        obtain ⟨l1, l2⟩ := hw.lt h1 h2 hb (List.mem_of_getElem? hfa)
        have r1 := (h1.at l1).2.1
        have r2 := (h2.at l2).2.1
        have i0 : oidx (.lst (f.map pD)) (nD a) = .ok (.tup [nD n.1.1, nD n.1.2]) := oidx_l (by rw [List.getElem?_map, hfa]; rfl)
        have i1 := mac_os m1 nx1 os1
        have i2 := mac_os m2 nx2 os2
        have i3 := idx_tT o1 l1
        have i4 := idx_tT o2 l2
        have i5 := one_rD (rw1 os1 n.1.1) (rw1 os2 n.1.2)
        have i6 := mac_nx m1 nx1 os1
        have i7 := mac_nx m2 nx2 os2
        have i8 := idx_tT h1 l1
        have i9 := idx_tT h2 l2
        have ga : asg (gtup [(gnm 6), (gnm 7)]) (bin oidx (var 4) (var 5)) [some (macD m1 nx1 os1), some (macD m2 nx2 os2), some (kp2 b), some (ways f), some (.lst (f.map pD)), some (nD a), o6, o7, o8, o9] = .ok (.next [some (macD m1 nx1 os1), some (macD m2 nx2 os2), some (kp2 b), some (ways f), some (.lst (f.map pD)), some (nD a), some (nD n.1.1), some (nD n.1.2), o8, o9]) := by
          generalize f.map pD = FP at *
          generalize nD a = AA at *
          generalize nD n.1.1 = N1 at *
          generalize nD n.1.2 = N2 at *
          simp [var, gtup, gtupL, i0]
        rw [bfsP, hfa]
        dsimp only
        by_cases c : rw1 os1 n.1.1 = rw1 os2 n.1.2
        · have cb : badP os1 os2 n.1 = false := by unfold badP; simp [c]
          rw [cb, if_neg (by decide)]
          rw [decide_eq_false (fun q => q c)] at i5
          obtain ⟨r, hr, _⟩ := stepG_char n (gsP L nx1 nx2 n.1) f hw.nd
          have gl : (gsP L nx1 nx2 n.1).length = L := by simp [gsP]
          obtain ⟨o8', o9', hi⟩ := fs_inner (M1 := macD m1 nx1 os1) (M2 := macD m2 nx2 os2) (B0 := kp2 b) (n := n) (gsP L nx1 nx2 n.1) f (some (nD n.1.1)) (some (nD n.1.2)) o8 o9 hfa (Nat.lt_of_le_of_lt (show _ ≤ 901000 by omega) (by decide))
          have it : ienumM (izip (bin oidx (un (oattr ["Machine"] "nexts") (var 0)) (var 6)) (bin oidx (un (oattr ["Machine"] "nexts") (var 1)) (var 7))) [some (macD m1 nx1 os1), some (macD m2 nx2 os2), some (kp2 b), some (ways f), some (.lst (f.map pD)), some (nD a), some (nD n.1.1), some (nD n.1.2), o8, o9] = .ok ((gsP L nx1 nx2 n.1).map fun g => D.tup [nD g.1, kp2 g.2]) := by
            rw [← enum_gs r1 r2]
            unfold ienumM izip
            have z : ozip (rD (rw1 nx1 n.1.1)) (rD (rw1 nx2 n.1.2)) = .ok ((((rw1 nx1 n.1.1).map nD).zip ((rw1 nx2 n.1.2).map nD)).map fun x => D.tup [x.1, x.2]) := rfl
            generalize (((rw1 nx1 n.1.1).map nD).zip ((rw1 nx2 n.1.2).map nD)).map (fun x => D.tup [x.1, x.2]) = ZZ at *
            generalize rD (rw1 nx1 n.1.1) = R1 at *
            generalize rD (rw1 nx2 n.1.2) = R2 at *
            generalize macD m1 nx1 os1 = MA at *
            generalize macD m2 nx2 os2 = MB at *
            generalize nD n.1.1 = N1 at *
            generalize nD n.1.2 = N2 at *
            simp [var, i6, i7, i8, i9, z]
          have hb2 : fsW [some (macD m1 nx1 os1), some (macD m2 nx2 os2), some (kp2 b), some (ways f), some (.lst (f.map pD)), some (nD a), o6, o7, o8, o9] = .ok (.next [some (macD m1 nx1 os1), some (macD m2 nx2 os2), some (kp2 b), some (ways (stepG f n (gsP L nx1 nx2 n.1))), some (.lst ((stepG f n (gsP L nx1 nx2 n.1)).map pD)), some (nD (a + 1)), some (nD n.1.1), some (nD n.1.2), o8', o9']) := by
            unfold fsW
            refine (seq_next ga).trans ?_
            refine (chk_pass ?_).trans ?_
            · generalize macD m1 nx1 os1 = MA at *
              generalize macD m2 nx2 os2 = MB at *
              generalize rD (rw1 os1 n.1.1) = R1 at *
              generalize rD (rw1 os2 n.1.2) = R2 at *
              generalize nD n.1.1 = N1 at *
              generalize nD n.1.2 = N2 at *
              simp [var, i1, i2, i3, i4, i5]
            refine (for_pass it hi).trans ?_
            have e4 : oiadd (nD a) (.int 1) = .ok (nD (a + 1)) := rfl
            generalize nD (a + 1) = A1 at *
            generalize nD a = AA at *
            simp [var, e4]
          rw [wh_next ht hb2]
          exact fs_loop h1 h2 o1 o2 hL hU hU2 hb k fu _ (a + 1) _ _ _ _ (hw.step hfa) (by rw [hr, List.length_append]; omega) (by omega) (by omega)
        · have cb : badP os1 os2 n.1 = true := by unfold badP; simp [c]
          rw [cb, if_pos rfl]
          rw [decide_eq_true c] at i5
          refine ⟨(fun h => by cases h), fun F A n' h h' hlen => ?_⟩
          cases h
          rw [hfa] at h'
          cases h'
          have w1 := way_ok hw hfa (by omega) hlen
          have w2 := ful_ok (L := L) (o1.at l1).2.1 (o2.at l2).2.1 c hL
          have hret : tupE (argS (call m_way_back (argC (var 3) (argC (bin oidx (var 4) (var 5)) argN))) (argC (call m_first_unlike_letter (argC (bin oidx (un (oattr ["Machine"] "outs") (var 0)) (var 6)) (argC (bin oidx (un (oattr ["Machine"] "outs") (var 1)) (var 7)) argN))) argN)) [some (macD m1 nx1 os1), some (macD m2 nx2 os2), some (kp2 b), some (ways f), some (.lst (f.map pD)), some (nD a), some (nD n.1.1), some (nD n.1.2), o8, o9] = .ok (rD (readP L os1 os2 n)) := by
            have i0' : oidx (.lst (f.map pD)) (nD a) = .ok (kp2 n.1) := i0
            have ea : argS (call m_way_back (argC (var 3) (argC (bin oidx (var 4) (var 5)) argN))) (argC (call m_first_unlike_letter (argC (bin oidx (un (oattr ["Machine"] "outs") (var 0)) (var 6)) (argC (bin oidx (un (oattr ["Machine"] "outs") (var 1)) (var 7)) argN))) argN) [some (macD m1 nx1 os1), some (macD m2 nx2 os2), some (kp2 b), some (ways f), some (.lst (f.map pD)), some (nD a), some (nD n.1.1), some (nD n.1.2), o8, o9] = .ok (n.2.2.map nD ++ [nD (fstU L (rw1 os1 n.1.1) (rw1 os2 n.1.2))]) := by
              have sq : seqOf (rD n.2.2) = some (true, n.2.2.map nD) := rfl
              unfold argS
              generalize n.2.2.map nD = NM at *
              generalize rD n.2.2 = RN at *
              generalize macD m1 nx1 os1 = MA at *
              generalize macD m2 nx2 os2 = MB at *
              generalize rD (rw1 os1 n.1.1) = R1 at *
              generalize rD (rw1 os2 n.1.2) = R2 at *
              generalize nD (fstU L (rw1 os1 n.1.1) (rw1 os2 n.1.2)) = FU at *
              generalize nD n.1.1 = N1 at *
              generalize nD n.1.2 = N2 at *
              generalize kp2 n.1 = K1 at *
              generalize ways f = WF at *
              generalize f.map pD = FP at *
              generalize nD a = AA at *
              simp [var, i0', i1, i2, i3, i4, w1, w2, sq]
            rw [tupE_eq, ea, bind_ok]
            have er : rD (readP L os1 os2 n) = .tup (n.2.2.map nD ++ [nD (fstU L (rw1 os1 n.1.1) (rw1 os2 n.1.2))]) := by
              unfold readP rD
              rw [List.map_append]
              rfl
            rw [er]
            refine if_pos ?_
            simp
            exact Nat.le_trans (show _ ≤ 1000001 by omega) (by decide)
          have hb2 : fsW [some (macD m1 nx1 os1), some (macD m2 nx2 os2), some (kp2 b), some (ways f), some (.lst (f.map pD)), some (nD a), o6, o7, o8, o9] = .ok (.ret (rD (readP L os1 os2 n))) := by
            unfold fsW
            refine (seq_next ga).trans ?_
            have cc : tst (bin Py.one (bin oidx (un (oattr ["Machine"] "outs") (var 0)) (var 6)) (bin oidx (un (oattr ["Machine"] "outs") (var 1)) (var 7))) [some (macD m1 nx1 os1), some (macD m2 nx2 os2), some (kp2 b), some (ways f), some (.lst (f.map pD)), some (nD a), some (nD n.1.1), some (nD n.1.2), o8, o9] = .ok true := by
              generalize macD m1 nx1 os1 = MA at *
              generalize macD m2 nx2 os2 = MB at *
              generalize rD (rw1 os1 n.1.1) = R1 at *
              generalize rD (rw1 os2 n.1.2) = R2 at *
              generalize nD n.1.1 = N1 at *
              generalize nD n.1.2 = N2 at *
              simp [var, i1, i2, i3, i4, i5]
            rw [seq_eq, ite_eq, cc, bind_ok, if_pos rfl, ret_eq, hret]
            rfl
          exact wh_ret ht hb2
end
end Py.U
namespace Py.U
open PySem
def ansD (L : Nat) (os1 os2 : List (List Nat)) : Option Nd → D
  | none => .non
  | some n => rD (readP L os1 os2 n)
section
variable {S1 S2 L B : Nat} {nx1 os1 nx2 os2 : List (List Nat)} {m1 m2 : Nat}
theorem split_ok (h1 : Tbl S1 L S1 nx1) (h2 : Tbl S2 L S2 nx2) (o1 : Tbl S1 L B os1) (o2 : Tbl S2 L B os2) (hL : L ≤ 1000) (hU2 : S1 * S2 ≤ 900000) {b : P2} (hb : b.1 < S1 ∧ b.2 < S2) (hlen : ∀ n, seaP (S1 * S2) L nx1 os1 nx2 os2 b = some n → n.2.2.length < 1000000) :
    m_first_split [macD m1 nx1 os1, macD m2 nx2 os2, kp2 b] = .ok (ansD L os1 os2 (seaP (S1 * S2) L nx1 os1 nx2 os2 b)) := by
  obtain ⟨g1, g2⟩ := fs_loop (m1 := m1) (m2 := m2) h1 h2 o1 o2 hL (Nat.le_refl _) hU2 hb (S1 * S2) FUEL [(b, none, [])] 0 none none none none (wf_0 _ b) (Nat.zero_le _) (by omega) (Nat.lt_of_le_of_lt hU2 (by decide))
  have d1 : dic1 true (var 2) (cst .non) [some (macD m1 nx1 os1), some (macD m2 nx2 os2), some (kp2 b), none, none, none, none, none, none, none] = .ok (ways [(b, none, [])]) := dic1_eq rfl rfl (key_p2.ok b)
  have pre : ∀ r : Res Fl, whileL fsT fsW FUEL [some (macD m1 nx1 os1), some (macD m2 nx2 os2), some (kp2 b), some (ways [(b, none, [])]), some (.lst ([((b, none, []) : Nd)].map pD)), some (nD 0), none, none, none, none] = r → m_first_split [macD m1 nx1 os1, macD m2 nx2 os2, kp2 b] = done (match r with | .ok (.next e) => ret (cst .non) e | .ok x => .ok x | .exc c fs => .exc c fs | .stuck => .stuck) := fun r hr => by
    unfold m_first_split
    rw [fn3]
    unfold b_first_split
    refine congrArg done ?_
    refine (asg_pass d1).trans ?_
    refine (asg_pass (d := .lst ([((b, none, []) : Nd)].map pD)) (by
      generalize macD m1 nx1 os1 = MA at *
      generalize macD m2 nx2 os2 = MB at *
      show _ = Res.ok (D.lst [kp2 b])
      generalize kp2 b = KB at *
      simp only [var, lstE_eq, argC_eq, argN_eq, List.set, List.getElem?_cons_succ, List.getElem?_cons_zero, bind_ok, List.length_cons, List.length_nil, Nat.zero_add, Nat.reduceAdd]
      rfl)).trans ?_
    refine (asg_pass (d := nD 0) rfl).trans ?_
    rw [seq_eq]
    show (whileL fsT fsW FUEL [some (macD m1 nx1 os1), some (macD m2 nx2 os2), some (kp2 b), some (ways [(b, none, [])]), some (.lst ([((b, none, []) : Nd)].map pD)), some (nD 0), none, none, none, none] >>= fun fl => match fl with | .next e => ret (cst .non) e | x => .ok x) = _
    rw [hr]
    cases r with
    | ok x => cases x <;> rfl
    | exc c fs => rfl
    | stuck => rfl
  unfold seaP resP at hlen ⊢
  cases e : bfsP (badP os1 os2) (gsP L nx1 nx2) (S1 * S2) [(b, none, [])] 0 with
  | none =>
    obtain ⟨e', q⟩ := g1 e
    rw [pre _ q]
    rfl
  | some x =>
    obtain ⟨F, A⟩ := x
    rw [e] at hlen
    obtain ⟨_, _, n, n1, _⟩ := bfs_found (bad := badP os1 os2) (S1 * S2) _ 0 (wf_0 (gsP L nx1 nx2) b) (fun i n hi => absurd hi (Nat.not_lt_zero _)) F A e
    have q := g2 F A n e n1 (hlen n n1)
    rw [pre _ q]
    show Res.ok (rD (readP L os1 os2 n)) = Res.ok (ansD L os1 os2 (F[A]?))
    rw [n1]
    rfl
end
section
variable {S1 S2 n : Nat} {nx1 os1 nx2 os2 : List (List Nat)}
theorem unlike_ok (hn : n ≤ 3) (h1 : Tbl S1 (2 ^ n) S1 nx1) (h2 : Tbl S2 (2 ^ n) S2 nx2) (o1 : Tbl S1 (2 ^ n) 2 os1) (o2 : Tbl S2 (2 ^ n) 2 os2) (hS1 : 0 < S1) (hS2 : 0 < S2) (hm : S1 * S2 ≤ 900000) : m_first_unlike [macD n nx1 os1, macD n nx2 os2] = .ok (ansD (2 ^ n) os1 os2 (seaP (S1 * S2) (2 ^ n) nx1 os1 nx2 os2 (0, 0))) := by
  have p8 : 2 ^ n ≤ 2 ^ 3 := Nat.pow_le_pow_right (by decide) hn
  have e1 := mac_in n nx1 os1
  have e2 := mac_in n nx2 os2
  have e3 : Py.one (nD n) (nD n) = .ok (.bl false) := by simp [nD]
  have e4 := split_ok (m1 := n) (m2 := n) h1 h2 o1 o2 (by omega) hm (b := (0, 0)) ⟨hS1, hS2⟩ fun x hx => by
    have := sea_rlen h1 h2 (b := (0, 0)) ⟨hS1, hS2⟩ hx
    omega
  change m_first_split [_, _, .tup [.int 0, .int 0]] = _ at e4
  generalize ansD (2 ^ n) os1 os2 (seaP (S1 * S2) (2 ^ n) nx1 os1 nx2 os2 (0, 0)) = ANS at *
  generalize macD n nx1 os1 = M1 at *
  generalize macD n nx2 os2 = M2 at *
  generalize nD n = N at *
  unfold m_first_unlike
  rw [fn2]
  unfold b_first_unlike
  simp [var, e1, e2, e3, e4]
theorem alike_ok {M1 M2 A : D} {b : Bool} (h : m_first_unlike [M1, M2] = .ok A) (hb : isNon A = b) : m_write_alike [M1, M2] = .ok (.bl b) := by
  have e : oisN A = .ok (.bl b) := by rw [← hb]; rfl
  unfold m_write_alike
  rw [fn2]
  unfold b_write_alike
  simp [var, h, e]
end
end Py.U
namespace Py.U
open PySem
/-! ### the law's least machine -/
section
variable {S L : Nat} {nx os : List (List Nat)}
def lkBq : SM := app 4 (tupE (argC (bin oidx (var 2) (var 5)) (argC (un btuple (lcE (iseq (bin oidx (var 1) (var 5))) [10] (gnm 10) yes (bin oidx (var 2) (var 10)))) argN)))
theorem lk_loopq (h : Tbl S L S nx) (hz : S ≤ 1000) (hL : L ≤ 1000) {B : D} {c : List Nat} (hc : c.length = S) (o3 o5 o6 : Option D) :
    ∃ o5', forL (forB (gnm 5) lkBq) ((List.range S).map fun i => .int ((i : Nat) : Int)) [some B, some (.lst (nx.map rD)), some (.lst (c.map nD)), o3, some (.lst []), o5, o6, none, none, none, none, none] = .ok (.next [some B, some (.lst (nx.map rD)), some (.lst (c.map nD)), o3, some (.lst (((List.range S).map (keyS nx c)).map kpD)), o5', o6, none, none, none, none, none]) := by
  obtain ⟨e', q, o5', rfl⟩ := forR_inv (b := forB (gnm 5) lkBq) (n := S) (e := [some B, some (.lst (nx.map rD)), some (.lst (c.map nD)), o3, some (.lst []), o5, o6, none, none, none, none, none])
    (fun k E => ∃ o5', E = [some B, some (.lst (nx.map rD)), some (.lst (c.map nD)), o3, some (.lst (((List.range k).map (keyS nx c)).map kpD)), o5', o6, none, none, none, none, none]) ⟨o5, rfl⟩ (by
      rintro k E hk ⟨o5', rfl⟩
      have e0 := idx_tL h hk
      have e2 := idx_nL (c := c) (i := k) (by omega)
      have hrl := (h.at hk).2
      have e3 := line_lc (it := iseq (bin oidx (var 1) (var 5))) (i := 2) (j := 10) (c := c) (r := rw1 nx k) (e := [some B, some (.lst (nx.map rD)), some (.lst (c.map nD)), o3, some (.lst (((List.range k).map (keyS nx c)).map kpD)), some (nD k), o6, none, none, none, none, none]) (by
        show (oidx (.lst (nx.map rD)) (nD k) >>= _) = _
        rw [e0]
        rfl) (by omega) rfl (by decide) (by simp) (fun t ht => by rw [hc]; exact hrl.2 t ht)
      have z : (((List.range k).map (keyS nx c)).map kpD).length < SZ := szN (by simp; omega)
      refine ⟨[some B, some (.lst (nx.map rD)), some (.lst (c.map nD)), o3, some (.lst (((List.range (k + 1)).map (keyS nx c)).map kpD)), some (nD k), o6, none, none, none, none, none], ?_, _, rfl⟩
      rw [List.range_succ, List.map_append, List.map_append, List.map_singleton, List.map_singleton, keyS_D]
      have eR : rD ((rw1 nx k).map (at1 c)) = .tup (((rw1 nx k).map (at1 c)).map nD) := rfl
      rw [eR, forB_eq, gnm_eq, lift_some, bind_ok]
      show lkBq [some B, some (.lst (nx.map rD)), some (.lst (c.map nD)), o3, some (.lst (((List.range k).map (keyS nx c)).map kpD)), some (nD k), o6, none, none, none, none, none] = _
      unfold lkBq
      generalize ((rw1 nx k).map (at1 c)).map nD = G at *
      generalize nD (at1 c k) = A at *
      generalize ((List.range k).map (keyS nx c)).map kpD = KS at *
      generalize nx.map rD = NX at *
      generalize nD k = KK at *
      generalize c.map nD = CC at *
      simp only [app_eq, tupE_eq, argC_eq, argN_eq, bin_eq, un_eq, var, List.getElem?_cons_succ, List.getElem?_cons_zero, bind_ok, e2, e3, btuple_l, List.length_cons, List.length_nil, Nat.zero_add, Nat.reduceAdd, chk_2, z, if_true, if_pos, List.set])
  exact ⟨o5', q⟩
def l1Bq : SM := (seq (asg (gnm 4) (lstE argN))
  (seq (for_ (irng1 (un blen (var 1))) (gnm 5) lkBq)
  (seq (asg (gnm 6) (call numF (argC (var 4) argN)))
  (seq (Py.ite (tst (bin oeq (un bmaxL (var 6)) (un bmaxL (var 2)))) brk skip)
  (asg (gnm 2) (var 6))))))
theorem l1_stepq (h : Tbl S L S nx) (h0 : 0 < S) (hz : S ≤ 1000) (hL : L ≤ 1000) {B : D} {c : List Nat} (hc : c.length = S) (o3 o4 o5 o6 : Option D) :
    ∃ o4' o5', l1Bq [some B, some (.lst (nx.map rD)), some (.lst (c.map nD)), o3, o4, o5, o6, none, none, none, none, none] = .ok (if mxN (stepC nx c) = mxN c then .brk [some B, some (.lst (nx.map rD)), some (.lst (c.map nD)), o3, o4', o5', some (.lst ((stepC nx c).map nD)), none, none, none, none, none] else .next [some B, some (.lst (nx.map rD)), some (.lst ((stepC nx c).map nD)), o3, o4', o5', some (.lst ((stepC nx c).map nD)), none, none, none, none, none]) := by
  obtain ⟨o5', q⟩ := lk_loopq h hz hL (B := B) hc o3 o5 o6
  have sl : (stepC nx c).length = S := by rw [stepC_len, h.len]
  have e2 : numF [.lst (((List.range S).map (keyS nx c)).map kpD)] = .ok (.lst ((stepC nx c).map nD)) := by
    rw [numF_run key_kp (by simp; exact Nat.lt_of_le_of_lt hz (by decide))]
    unfold stepC
    rw [h.len]
  have e3 := bmax_nD (c := stepC nx c) (by omega)
  have e4 := bmax_nD (c := c) (by omega)
  have e5 := nat_eqN (mxN (stepC nx c)) (mxN c)
  refine ⟨some (.lst (((List.range S).map (keyS nx c)).map kpD)), o5', ?_⟩
  unfold l1Bq
  refine (asg_p (d := .lst []) (by simp)).trans ?_
  refine (for_p (xs := (List.range S).map fun i => .int ((i : Nat) : Int)) ?_ q).trans ?_
  · refine irng1_nat (n := S) ?_ (rng_lt hz)
    have := lenN nx rD
    rw [h.len] at this
    exact this
  generalize ((List.range S).map (keyS nx c)).map kpD = KS at *
  generalize nx.map rD = NX at *
  generalize hs : (stepC nx c).map nD = SC at *
  generalize c.map nD = CC at *
  generalize hm1 : nD (mxN (stepC nx c)) = M1 at *
  generalize hm2 : nD (mxN c) = M2 at *
  by_cases hq : mxN (stepC nx c) = mxN c
  · rw [if_pos hq]
    rw [decide_eq_true hq] at e5
    simp [var, e2, e3, e4, e5]
  · rw [if_neg hq]
    rw [decide_eq_false hq] at e5
    simp [var, e2, e3, e4, e5]
theorem l1_loopq (h : Tbl S L S nx) (h0 : 0 < S) (hz : S ≤ 1000) (hL : L ≤ 1000) {B : D} : ∀ (ys : List D) (c : List Nat) (o3 o4 o5 o6 : Option D), c.length = S →
    ∃ o3' o4' o5' o6', forL (forB (gnm 3) l1Bq) ys [some B, some (.lst (nx.map rD)), some (.lst (c.map nD)), o3, o4, o5, o6, none, none, none, none, none] = .ok (.next [some B, some (.lst (nx.map rD)), some (.lst ((clsL nx c ys.length).map nD)), o3', o4', o5', o6', none, none, none, none, none])
  | [], c, o3, o4, o5, o6, hc => ⟨o3, o4, o5, o6, rfl⟩
  | y :: ys, c, o3, o4, o5, o6, hc => by
    obtain ⟨o4', o5', q⟩ := l1_stepq h h0 hz hL (B := B) hc (some y) o4 o5 o6
    have e1 : forB (gnm 3) l1Bq y [some B, some (.lst (nx.map rD)), some (.lst (c.map nD)), o3, o4, o5, o6, none, none, none, none, none] = l1Bq [some B, some (.lst (nx.map rD)), some (.lst (c.map nD)), some y, o4, o5, o6, none, none, none, none, none] := rfl
    rw [forL, e1, q]
    by_cases hq : mxN (stepC nx c) = mxN c
    · rw [if_pos hq]
      refine ⟨some y, o4', o5', some (.lst ((stepC nx c).map nD)), ?_⟩
      rw [List.length_cons, clsL, if_pos hq]
    · rw [if_neg hq]
      obtain ⟨a3, a4, a5, a6, q2⟩ := l1_loopq h h0 hz hL (B := B) ys (stepC nx c) (some y) o4' o5' (some (.lst ((stepC nx c).map nD))) (by rw [stepC_len, h.len])
      refine ⟨a3, a4, a5, a6, ?_⟩
      rw [List.length_cons, clsL, if_neg hq]
      exact q2
/-! the search -/
def l2Iq : SM := (Py.ite (tst (bin onotin (bin oidx (var 2) (var 10)) (var 8))) (seq (setL 8 (bin oidx (var 2) (var 10)) (un blen (var 7)))
  (app 7 (var 10))) skip)
theorem l2_stepq {A B : D} {cls f : List Nat} {t : Nat} (ht : t < cls.length) (hf : f.length < 1000) (o3 o4 o5 o6 o9 o10 : Option D) :
    forB (gnm 10) l2Iq (nD t) [some A, some B, some (.lst (cls.map nD)), o3, o4, o5, o6, some (.lst (f.map nD)), some (dicC (at1 cls) f), o9, o10, none] = .ok (.next [some A, some B, some (.lst (cls.map nD)), o3, o4, o5, o6, some (.lst ((stepT (at1 cls) f t).map nD)), some (dicC (at1 cls) (stepT (at1 cls) f t)), o9, some (nD t), none]) := by
  have e1 := idx_nL ht
  have zf : (f.map nD).length < SZ := szN (by omega)
  rw [forB_eq, gnm_eq, lift_some, bind_ok]
  unfold l2Iq
  show Py.ite _ _ _ [some A, some B, some (.lst (cls.map nD)), o3, o4, o5, o6, some (.lst (f.map nD)), some (dicC (at1 cls) f), o9, some (nD t), none] = _
  by_cases q : at1 cls t ∈ f.map (at1 cls)
  · have e : stepT (at1 cls) f t = f := if_pos q
    rw [e]
    obtain ⟨n1, g1⟩ := dic_has q
    generalize dicC (at1 cls) f = DC at *
    generalize nD (at1 cls t) = K at *
    generalize cls.map nD = CL at *
    generalize nD t = T at *
    simp [var, e1, n1]
  · have e : stepT (at1 cls) f t = f ++ [t] := if_neg q
    obtain ⟨n1, p1⟩ := dic_not q
    rw [e]
    have sl : setL 8 (bin oidx (var 2) (var 10)) (un blen (var 7)) [some A, some B, some (.lst (cls.map nD)), o3, o4, o5, o6, some (.lst (f.map nD)), some (dicC (at1 cls) f), o9, some (nD t), none] = .ok (.next [some A, some B, some (.lst (cls.map nD)), o3, o4, o5, o6, some (.lst (f.map nD)), some (dicC (at1 cls) (f ++ [t])), o9, some (nD t), none]) := by
      have b1 := lenN f nD
      have := setL_dic (i := 8) (j := bin oidx (var 2) (var 10)) (m := un blen (var 7)) (e := [some A, some B, some (.lst (cls.map nD)), o3, o4, o5, o6, some (.lst (f.map nD)), some (dicC (at1 cls) f), o9, some (nD t), none]) (t := false) (kvs := tabF nD 0 (f.map (at1 cls))) (k := nD (at1 cls t)) (d := nD f.length) rfl (by
        generalize f.map nD = FF at *
        simp [var, b1]) (by
        generalize cls.map nD = CL at *
        generalize nD t = T at *
        simp [var, e1]) (key_nD.ok _) (by rw [tabF_len, List.length_map]; exact Nat.lt_trans hf (by decide))
      rw [this, p1]
      rfl
    have ef : (f ++ [t]).map nD = f.map nD ++ [nD t] := by simp
    rw [ef]
    generalize dicC (at1 cls) (f ++ [t]) = DC2 at *
    generalize dicC (at1 cls) f = DC at *
    generalize nD (at1 cls t) = K at *
    generalize f.map nD = FF at *
    generalize cls.map nD = CL at *
    generalize nD t = T at *
    simp [var, e1, n1, zf, sl]
theorem l2_innerq {A B : D} {cls : List Nat} (hcl : cls.length = S) (hz : S ≤ 999) (hC : ∀ s, s < S → at1 cls s < S) (o3 o4 o5 o6 o9 : Option D) : ∀ (ts f : List Nat) (o10 : Option D), Fnd (at1 cls) S f → (∀ t ∈ ts, t < S) →
    ∃ o10', forL (forB (gnm 10) l2Iq) (ts.map nD) [some A, some B, some (.lst (cls.map nD)), o3, o4, o5, o6, some (.lst (f.map nD)), some (dicC (at1 cls) f), o9, o10, none] = .ok (.next [some A, some B, some (.lst (cls.map nD)), o3, o4, o5, o6, some (.lst ((ts.foldl (stepT (at1 cls)) f).map nD)), some (dicC (at1 cls) (ts.foldl (stepT (at1 cls)) f)), o9, o10', none])
  | [], f, o10, _, _ => ⟨o10, rfl⟩
  | t :: ts, f, o10, hF, ht => by
    have h1 := l2_stepq (A := A) (B := B) (f := f) (t := t) (by rw [hcl]; exact ht t List.mem_cons_self) (by have := hF.len hC; omega) o3 o4 o5 o6 o9 o10
    obtain ⟨o10', h2⟩ := l2_innerq hcl hz hC (A := A) (B := B) o3 o4 o5 o6 o9 ts (stepT (at1 cls) f t) (some (nD t)) (hF.snoc (ht t List.mem_cons_self)) (fun x hx => ht x (List.mem_cons_of_mem _ hx))
    refine ⟨o10', ?_⟩
    rw [List.map_cons, forL, h1]
    exact h2
def l2Bq : SM := (seq (Py.ite (tst (bin oge (var 9) (un blen (var 7)))) brk skip)
  (for_ (iseq (bin oidx (var 1) (bin oidx (var 7) (var 9)))) (gnm 10) l2Iq))
theorem l2_loopq (h : Tbl S L S nx) (hz : S ≤ 999) {B : D} {cls : List Nat} (hcl : cls.length = S) (hC : ∀ s, s < S → at1 cls s < S) (o3 o4 o5 o6 : Option D) : ∀ (k : Nat) (f : List Nat) (a : Nat) (o9 o10 : Option D), Fnd (at1 cls) S f →
    ∃ o9' o10', forL (forB (gnm 9) l2Bq) ((List.range' a k).map fun i => .int ((i : Nat) : Int)) [some B, some (.lst (nx.map rD)), some (.lst (cls.map nD)), o3, o4, o5, o6, some (.lst (f.map nD)), some (dicC (at1 cls) f), o9, o10, none] = .ok (.next [some B, some (.lst (nx.map rD)), some (.lst (cls.map nD)), o3, o4, o5, o6, some (.lst ((bfsL (at1 cls) nx k f a).map nD)), some (dicC (at1 cls) (bfsL (at1 cls) nx k f a)), o9', o10', none])
  | 0, f, a, o9, o10, _ => ⟨o9, o10, rfl⟩
  | k + 1, f, a, o9, o10, hF => by
    have e1 := lenN f nD
    have e2 := ogeN a f.length
    rw [List.range'_succ, List.map_cons, forL]
    have e0 : forB (gnm 9) l2Bq (.int (a : Int)) [some B, some (.lst (nx.map rD)), some (.lst (cls.map nD)), o3, o4, o5, o6, some (.lst (f.map nD)), some (dicC (at1 cls) f), o9, o10, none] = l2Bq [some B, some (.lst (nx.map rD)), some (.lst (cls.map nD)), o3, o4, o5, o6, some (.lst (f.map nD)), some (dicC (at1 cls) f), some (nD a), o10, none] := rfl
    rw [e0]
    by_cases q : a < f.length
    · rw [decide_eq_false (by omega)] at e2
      have hs : f.getD a 0 < S := hF.lt _ (by
        rw [List.getD_eq_getElem?_getD, List.getElem?_eq_getElem q]
        exact List.getElem_mem q)
      have hN : ∀ t ∈ nx.getD (f.getD a 0) [], t < S := fun t ht => (h.at hs).2.2 t ht
      obtain ⟨o10', hi⟩ := l2_innerq (A := B) (B := .lst (nx.map rD)) hcl hz hC o3 o4 o5 o6 (some (nD a)) (nx.getD (f.getD a 0) []) f o10 hF hN
      have e5 : oidx (.lst (f.map nD)) (nD a) = .ok (nD (f.getD a 0)) := idx_nL q
      have e6 : oidx (.lst (nx.map rD)) (nD (f.getD a 0)) = .ok (.tup ((nx.getD (f.getD a 0) []).map nD)) := idx_tL h hs
      have hb : l2Bq [some B, some (.lst (nx.map rD)), some (.lst (cls.map nD)), o3, o4, o5, o6, some (.lst (f.map nD)), some (dicC (at1 cls) f), some (nD a), o10, none] = .ok (.next [some B, some (.lst (nx.map rD)), some (.lst (cls.map nD)), o3, o4, o5, o6, some (.lst ((stepS (at1 cls) nx f (f.getD a 0)).map nD)), some (dicC (at1 cls) (stepS (at1 cls) nx f (f.getD a 0))), some (nD a), o10', none]) := by
        change forL _ _ _ = .ok (.next [_, _, _, _, _, _, _, some (.lst ((stepS (at1 cls) nx f (f.getD a 0)).map nD)), some (dicC (at1 cls) (stepS (at1 cls) nx f (f.getD a 0))), _, _, _]) at hi
        unfold l2Bq
        refine (chk_p ?_).trans ?_
        · generalize f.map nD = FF at *
          generalize nD a = A at *
          generalize nD f.length = FL at *
          simp [var, e1, e2]
        · rw [for_eq]
          have : iseq (bin oidx (var 1) (bin oidx (var 7) (var 9))) [some B, some (.lst (nx.map rD)), some (.lst (cls.map nD)), o3, o4, o5, o6, some (.lst (f.map nD)), some (dicC (at1 cls) f), some (nD a), o10, none] = .ok ((nx.getD (f.getD a 0) []).map nD) := by
            generalize (nx.getD (f.getD a 0) []).map nD = TS at *
            generalize f.map nD = FF at *
            generalize dicC (at1 cls) f = DC at *
            generalize nx.map rD = NX at *
            generalize nD (f.getD a 0) = FA at *
            generalize nD a = A at *
            simp [var, e5, e6]
          rw [this, bind_ok, hi]
      rw [hb, bfsL, if_pos q]
      exact l2_loopq h hz hcl hC o3 o4 o5 o6 k _ (a + 1) _ _ (hF.step (nx := nx) hN).1
    · rw [decide_eq_true (by omega)] at e2
      have hb : l2Bq [some B, some (.lst (nx.map rD)), some (.lst (cls.map nD)), o3, o4, o5, o6, some (.lst (f.map nD)), some (dicC (at1 cls) f), some (nD a), o10, none] = .ok (.brk [some B, some (.lst (nx.map rD)), some (.lst (cls.map nD)), o3, o4, o5, o6, some (.lst (f.map nD)), some (dicC (at1 cls) f), some (nD a), o10, none]) := by
        unfold l2Bq
        generalize f.map nD = FF at *
        generalize nD a = A at *
        generalize nD f.length = FL at *
        simp [var, e1, e2]
      rw [hb, bfsL, if_neg q]
      exact ⟨_, _, rfl⟩
def l3Bq : SM := app 11 (un btuple (lcE (iseq (bin oidx (var 1) (var 5))) [10] (gnm 10) yes (bin oidx (var 8) (bin oidx (var 2) (var 10)))))
theorem l3_loopq (h : Tbl S L S nx) (hz : S ≤ 999) (hL : L ≤ 1000) {B : D} {cls F : List Nat} (hcl : cls.length = S) (hF : Fnd (at1 cls) S F) (hFl : F.length ≤ S) (hc : Cld (at1 cls) nx F F.length) (o3 o4 o6 o9 o10 : Option D) : ∀ (fs dn : List Nat) (o5 : Option D), dn ++ fs = F →
    ∃ o5', forL (forB (gnm 5) l3Bq) (fs.map nD) [some B, some (.lst (nx.map rD)), some (.lst (cls.map nD)), o3, o4, o5, o6, some (.lst (F.map nD)), some (dicC (at1 cls) F), o9, o10, some (.lst ((dn.map (rowN (at1 cls) nx F)).map rD))] = .ok (.next [some B, some (.lst (nx.map rD)), some (.lst (cls.map nD)), o3, o4, o5', o6, some (.lst (F.map nD)), some (dicC (at1 cls) F), o9, o10, some (.lst ((F.map (rowN (at1 cls) nx F)).map rD))])
  | [], dn, o5, e => ⟨o5, by rw [List.append_nil] at e; rw [e]; rfl⟩
  | s :: fs, dn, o5, e => by
    have hs : s < S := hF.lt s (by rw [← e]; simp)
    have e0 := idx_tL h hs
    have hrl := (h.at hs).2
    have hlen : dn.length ≤ 999 := by
      have := congrArg List.length e
      simp at this
      omega
    have cl : ∀ t ∈ rw1 nx s, at1 cls t ∈ F.map (at1 cls) := fun t ht => by
      have hi : dn.length < F.length := by rw [← e]; simp
      have := hc dn.length hi t
      have e2 : F.getD dn.length 0 = s := by rw [← e]; simp [List.getD_eq_getElem?_getD]
      rw [e2] at this
      exact this ht
    have e3 : lcE (iseq (bin oidx (var 1) (var 5))) [10] (gnm 10) yes (bin oidx (var 8) (bin oidx (var 2) (var 10))) [some B, some (.lst (nx.map rD)), some (.lst (cls.map nD)), o3, o4, some (nD s), o6, some (.lst (F.map nD)), some (dicC (at1 cls) F), o9, o10, some (.lst ((dn.map (rowN (at1 cls) nx F)).map rD))] = .ok (.lst ((rowN (at1 cls) nx F s).map nD)) := by
      have hrN : (rowN (at1 cls) nx F s).map nD = (nx.getD s []).map fun t => nD ((F.map (at1 cls)).idxOf (at1 cls t)) := by
        unfold rowN
        rw [List.map_map]
        rfl
      rw [hrN]
      refine lc_mapI (g := gnm 10) (vs := [10]) (e := [some B, some (.lst (nx.map rD)), some (.lst (cls.map nD)), o3, o4, some (nD s), o6, some (.lst (F.map nD)), some (dicC (at1 cls) F), o9, o10, some (.lst ((dn.map (rowN (at1 cls) nx F)).map rD))]) (k := nD) (ys := nx.getD s []) ?_ (le_sz ?_) fun y hy => ⟨_, rfl, ?_⟩
      · show (oidx (.lst (nx.map rD)) (nD s) >>= _) = _
        rw [e0]
        rfl
      · have := hrl.1
        unfold rw1 at this
        omega
      · have q1 := idx_nL (c := cls) (i := y) (by rw [hcl]; exact hrl.2 y hy)
        have q2 := (dic_has (cl y hy)).2
        show _ = Res.ok (nD ((F.map (at1 cls)).idxOf (at1 cls y)))
        generalize nD ((F.map (at1 cls)).idxOf (at1 cls y)) = N at *
        generalize dicC (at1 cls) F = DC at *
        generalize nD (at1 cls y) = K at *
        generalize cls.map nD = CL at *
        generalize nD y = Y at *
        simp only [wipe]
        simp [var, q1, q2]
    have z : ((dn.map (rowN (at1 cls) nx F)).map rD).length < SZ := szN (by simp; omega)
    obtain ⟨o5', q⟩ := l3_loopq h hz hL (B := B) hcl hF hFl hc o3 o4 o6 o9 o10 fs (dn ++ [s]) (some (nD s)) (by rw [← e]; simp)
    refine ⟨o5', ?_⟩
    rw [List.map_cons, forL]
    have e1 : forB (gnm 5) l3Bq (nD s) [some B, some (.lst (nx.map rD)), some (.lst (cls.map nD)), o3, o4, o5, o6, some (.lst (F.map nD)), some (dicC (at1 cls) F), o9, o10, some (.lst ((dn.map (rowN (at1 cls) nx F)).map rD))] = .ok (.next [some B, some (.lst (nx.map rD)), some (.lst (cls.map nD)), o3, o4, some (nD s), o6, some (.lst (F.map nD)), some (dicC (at1 cls) F), o9, o10, some (.lst (((dn ++ [s]).map (rowN (at1 cls) nx F)).map rD))]) := by
      rw [List.map_append, List.map_append, List.map_singleton, List.map_singleton]
      have eR : rD (rowN (at1 cls) nx F s) = .tup ((rowN (at1 cls) nx F s).map nD) := rfl
      rw [eR, forB_eq, gnm_eq, lift_some, bind_ok]
      show l3Bq [some B, some (.lst (nx.map rD)), some (.lst (cls.map nD)), o3, o4, some (nD s), o6, some (.lst (F.map nD)), some (dicC (at1 cls) F), o9, o10, some (.lst ((dn.map (rowN (at1 cls) nx F)).map rD))] = _
      unfold l3Bq
      generalize (rowN (at1 cls) nx F s).map nD = RN at *
      generalize (dn.map (rowN (at1 cls) nx F)).map rD = R at *
      generalize dicC (at1 cls) F = DC at *
      simp only [app_eq, un_eq, var, List.getElem?_cons_succ, List.getElem?_cons_zero, bind_ok, e3, btuple_l, z, if_true, if_pos, List.set]
    rw [e1]
    exact q
theorem least_law {B : Nat} (h : Tbl S L S nx) (ho : Tbl S L B os) (h0 : 0 < S) (hz : S ≤ 999) (hL : L ≤ 1000) : m_law_least [pairL (nx, os)] = .ok (.lst [.lst ((lsN nx os).map rD), .lst ((lsO nx os).map rD)]) := by
  have e2 := numF_run key_rD (ks := os) (by rw [ho.len]; exact Nat.lt_of_le_of_lt hz (by decide))
  obtain ⟨c1, c2⟩ := clsM_lt h ho.len h0
  obtain ⟨g1, g2, g3, r, g4⟩ := fndM_ok h ho.len h0
  have ln : blen (.lst (nx.map rD)) = .ok (nD S) := by rw [lenN, h.len]
  obtain ⟨o3, o4, o5, o6, q1⟩ := l1_loopq h h0 (by omega) hL (B := pairL (nx, os)) ((List.range S).map fun i => .int ((i : Nat) : Int)) (numb os) none none none none (by rw [numb_len, ho.len])
  rw [List.length_map, List.length_range] at q1
  have ec : clsL nx (numb os) S = clsM nx os := by unfold clsM; rw [h.len]
  rw [ec] at q1
  obtain ⟨o9, o10, q2⟩ := l2_loopq h hz (B := pairL (nx, os)) c1 c2 o3 o4 o5 o6 S [0] 0 none none (fnd_0 h0)
  have eb : bfsL (at1 (clsM nx os)) nx S [0] 0 = fndM nx os := by unfold fndM; rw [h.len]
  rw [eb, ← List.range_eq_range'] at q2
  obtain ⟨o5', q3⟩ := l3_loopq h hz hL (B := pairL (nx, os)) c1 g1 g3 g2 o3 o4 o6 o9 o10 (fndM nx os) [] o5 rfl
  have ir : ∀ t : List (Option D), irng1 (un blen (var 1)) (some (pairL (nx, os)) :: some (.lst (nx.map rD)) :: t) = .ok ((List.range S).map fun i => .int ((i : Nat) : Int)) := fun t => irng1_nat (n := S) ln (rng_lt (by omega))
  have ix0 : oidx (.lst ((clsM nx os).map nD)) (.int 0) = .ok (nD (at1 (clsM nx os) 0)) := idx_nL (i := 0) (by omega)
  have d1 : dic1 false (bin oidx (var 2) (cst (.int 0))) (cst (.int 0)) [some (pairL (nx, os)), some (.lst (nx.map rD)), some (.lst ((clsM nx os).map nD)), o3, o4, o5, o6, some (.lst ([0].map nD)), none, none, none, none] = .ok (dicC (at1 (clsM nx os)) [0]) := dic1_eq (by
    show (oidx (.lst ((clsM nx os).map nD)) (.int 0)) = _
    exact ix0) rfl (key_nD.ok _)
  have lo : lcE (iseq (var 7)) [5] (gnm 5) yes (bin oidx (bin oidx (var 0) (cst (.int 1))) (var 5)) [some (pairL (nx, os)), some (.lst (nx.map rD)), some (.lst ((clsM nx os).map nD)), o3, o4, o5', o6, some (.lst ((fndM nx os).map nD)), some (dicC (at1 (clsM nx os)) (fndM nx os)), o9, o10, some (.lst ((lsN nx os).map rD))] = .ok (.lst ((lsO nx os).map rD)) := by
    unfold lsO
    rw [List.map_map]
    refine lc_mapI (k := nD) (ys := fndM nx os) rfl (le_sz (by omega)) fun y hy => ⟨_, rfl, ?_⟩
    have q := idx_tL ho (g1.lt y hy)
    show _ = Res.ok (rD (rw1 os y))
    generalize rD (rw1 os y) = R at *
    have P1 := pair1 (nx, os)
    dsimp only at P1
    generalize pairL (nx, os) = PL at *
    generalize os.map rD = OS at *
    generalize nD y = Y at *
    simp only [wipe]
    simp [var, P1, q]
  change forL _ _ _ = .ok (.next [_, _, _, _, _, _, _, _, _, _, _, some (.lst ((lsN nx os).map rD))]) at q3
  have P0 := pair0 (nx, os)
  have P1 := pair1 (nx, os)
  dsimp only at P0 P1
  unfold m_law_least
  rw [fn1]
  show done (seq (asg (gnm 1) _) (seq (asg (gnm 2) _) (seq (for_ (irng1 (un blen (var 1))) (gnm 3) l1Bq) (seq (asg (gnm 7) (lstE (argC (cst (.int 0)) argN))) (seq (asg (gnm 8) (dic1 false (bin oidx (var 2) (cst (.int 0))) (cst (.int 0)))) (seq (for_ (irng1 (un blen (var 1))) (gnm 9) l2Bq) (seq (asg (gnm 11) (lstE argN)) (seq (for_ (iseq (var 7)) (gnm 5) l3Bq) (ret (lstE (argC (var 11) (argC (lcE (iseq (var 7)) [5] (gnm 5) yes (bin oidx (bin oidx (var 0) (cst (.int 1))) (var 5))) argN)))))))))))  [some (pairL (nx, os)), none, none, none, none, none, none, none, none, none, none, none]) = _
  refine (congrArg done ((asg_p (d := .lst (nx.map rD)) ?_).trans ((asg_p (d := .lst ((numb os).map nD)) ?_).trans ?_))).trans (done_ret _)
  · generalize pairL (nx, os) = PL at *
    generalize nx.map rD = NX at *
    simp [var, P0]
  · change m_law_numbered _ = _ at e2
    generalize pairL (nx, os) = PL at *
    generalize os.map rD = OS at *
    simp [var, P1, e2]
  refine (for_p (ir _) q1).trans ?_
  refine (asg_p (d := .lst ([0].map nD)) (by simp; rfl)).trans ?_
  refine (asg_p d1).trans ?_
  refine (for_p (ir _) q2).trans ?_
  refine (asg_p (d := .lst []) (by simp)).trans ?_
  refine (for_p (xs := (fndM nx os).map nD) rfl q3).trans ?_
  rw [ret_eq, lstE_eq, argC_eq, argC_eq, argN_eq, lo]
  rfl
end
end Py.U
namespace Py.U
open PySem
/-! ### the law's search -/
def wtD (n : Nd) : D := .tup [nD n.1.1, nD n.1.2, rD n.2.2]
def lfI : SM := (seq (Py.ite (tst (bin Py.one (bin oidx (bin oidx (bin oidx (var 0) (cst (.int 1))) (bin oidx (var 6) (cst (.int 0)))) (var 7)) (bin oidx (bin oidx (bin oidx (var 1) (cst (.int 1))) (bin oidx (var 6) (cst (.int 1)))) (var 7)))) (ret (bin oadd (bin oidx (var 6) (cst (.int 2))) (tupE (argC (var 7) argN)))) skip)
  (seq (asg (gnm 8) (bin oidx (bin oidx (bin oidx (var 0) (cst (.int 0))) (bin oidx (var 6) (cst (.int 0)))) (var 7)))
  (seq (asg (gnm 9) (bin oidx (bin oidx (bin oidx (var 1) (cst (.int 0))) (bin oidx (var 6) (cst (.int 1)))) (var 7)))
  (Py.ite (tst (bin onotin (tupE (argC (var 8) (argC (var 9) argN))) (var 3))) (seq (setL 3 (tupE (argC (var 8) (argC (var 9) argN))) (cst (.bl true)))
  (app 4 (tupE (argC (var 8) (argC (var 9) (argC (bin oadd (bin oidx (var 6) (cst (.int 2))) (tupE (argC (var 7) argN))) argN)))))) skip))))
def lfB : SM := (seq (Py.ite (tst (bin oge (var 5) (un blen (var 4)))) (ret (cst .non)) skip)
  (seq (asg (gnm 6) (bin oidx (var 4) (var 5)))
  (for_ (irng1 (var 2)) (gnm 7) (seq (Py.ite (tst (bin Py.one (bin oidx (bin oidx (bin oidx (var 0) (cst (.int 1))) (bin oidx (var 6) (cst (.int 0)))) (var 7)) (bin oidx (bin oidx (bin oidx (var 1) (cst (.int 1))) (bin oidx (var 6) (cst (.int 1)))) (var 7)))) (ret (bin oadd (bin oidx (var 6) (cst (.int 2))) (tupE (argC (var 7) argN)))) skip)
  (seq (asg (gnm 8) (bin oidx (bin oidx (bin oidx (var 0) (cst (.int 0))) (bin oidx (var 6) (cst (.int 0)))) (var 7)))
  (seq (asg (gnm 9) (bin oidx (bin oidx (bin oidx (var 1) (cst (.int 0))) (bin oidx (var 6) (cst (.int 1)))) (var 7)))
  (Py.ite (tst (bin onotin (tupE (argC (var 8) (argC (var 9) argN))) (var 3))) (seq (setL 3 (tupE (argC (var 8) (argC (var 9) argN))) (cst (.bl true)))
  (app 4 (tupE (argC (var 8) (argC (var 9) (argC (bin oadd (bin oidx (var 6) (cst (.int 2))) (tupE (argC (var 7) argN))) argN)))))) skip)))))))
theorem one_nD (a b : Nat) : Py.one (nD a) (nD b) = .ok (.bl (decide (a ≠ b))) := by
  unfold Py.one
  rw [show plain (nD a) = true from plain_nD 64 a, show plain (nD b) = true from plain_nD 64 b, nD_eq]
  show Res.ok (D.bl (!decide (a = b))) = _
  by_cases c : a = b <;> simp [c]
theorem lf_tup2 (x y : D) (e : Env) (a b : EM) (h1 : a e = .ok x) (h2 : b e = .ok y) : tupE (argC a (argC b argN)) e = .ok (.tup [x, y]) := by
  rw [tupE_eq, argC_eq, argC_eq, argN_eq, h1, h2]
  rfl
theorem big_lt {n : Nat} (h : n ≤ 1000000) : n < B62 := Nat.lt_of_le_of_lt h (by decide)
def glP (nx1 nx2 : List (List Nat)) (p : P2) (l : Nat) : Nat × P2 := (l, (at1 (rw1 nx1 p.1) l, at1 (rw1 nx2 p.2) l))
theorem addG_inv {n : Nd} {f : List Nd} {g : Nat × P2} : (addG n.1 n.2.2 f g).length ≤ f.length + 1 ∧ (∀ m ∈ addG n.1 n.2.2 f g, m ∈ f ∨ m = (g.2, some (n.1, g.1), n.2.2 ++ [g.1])) := by
  unfold addG
  split
  · exact ⟨Nat.le_succ _, fun m h => .inl h⟩
  · refine ⟨by simp, fun m h => ?_⟩
    rcases List.mem_append.mp h with q | q
    · exact .inl q
    · exact .inr (List.mem_singleton.mp q)
section
variable {S1 S2 L : Nat} {nx1 os1 nx2 os2 : List (List Nat)}
def fldG (nx1 nx2 : List (List Nat)) (n : Nd) (f : List Nd) (ls : List Nat) : List Nd := ls.foldl (fun f l => addG n.1 n.2.2 f (glP nx1 nx2 n.1 l)) f
theorem fldG_gs (n : Nd) (f : List Nd) : fldG nx1 nx2 n f (List.range L) = stepG f n (gsP L nx1 nx2 n.1) := by
  unfold fldG stepG gsP
  rw [List.foldl_map]
  rfl
theorem lf_good (h1 : Tbl S1 L S1 nx1) (h2 : Tbl S2 L S2 nx2) (o1 : Tbl S1 L 2 os1) (o2 : Tbl S2 L 2 os2) {f : List Nd} {n : Nd} (hn : n.1.1 < S1 ∧ n.1.2 < S2) {l : Nat} (hl : l < L) (hb : at1 (rw1 os1 n.1.1) l = at1 (rw1 os2 n.1.2) l) (hz : f.length < SZ) (hr : n.2.2.length < 1000000) (a o7 o8 o9 : Option D) :
    forB (gnm 7) lfI (nD l) [some (pairL (nx1, os1)), some (pairL (nx2, os2)), some (nD L), some (metD f), some (.lst (f.map wtD)), a, some (wtD n), o7, o8, o9] = .ok (.next [some (pairL (nx1, os1)), some (pairL (nx2, os2)), some (nD L), some (metD (addG n.1 n.2.2 f (glP nx1 nx2 n.1 l))), some (.lst ((addG n.1 n.2.2 f (glP nx1 nx2 n.1 l)).map wtD)), a, some (wtD n), some (nD l), some (nD (at1 (rw1 nx1 n.1.1) l)), some (nD (at1 (rw1 nx2 n.1.2) l))]) := by
  have i0 : oidx (wtD n) (.int 0) = .ok (nD n.1.1) := rfl
  have i1 : oidx (wtD n) (.int 1) = .ok (nD n.1.2) := rfl
  have i2 : oidx (wtD n) (.int 2) = .ok (rD n.2.2) := rfl
  have A0 := pair0 (nx1, os1)
  have A1 := pair1 (nx1, os1)
  have B0 := pair0 (nx2, os2)
  have B1 := pair1 (nx2, os2)
  dsimp only at A0 A1 B0 B1
  have x1 := idx_tL o1 hn.1
  have x2 := idx_tL o2 hn.2
  have x3 := idx_nT (c := rw1 os1 n.1.1) (i := l) (by rw [(o1.at hn.1).2.1]; exact hl)
  have x4 := idx_nT (c := rw1 os2 n.1.2) (i := l) (by rw [(o2.at hn.2).2.1]; exact hl)
  have y1 := idx_tL h1 hn.1
  have y2 := idx_tL h2 hn.2
  have y3 := idx_nT (c := rw1 nx1 n.1.1) (i := l) (by rw [(h1.at hn.1).2.1]; exact hl)
  have y4 := idx_nT (c := rw1 nx2 n.1.2) (i := l) (by rw [(h2.at hn.2).2.1]; exact hl)
  have c1 := one_nD (at1 (rw1 os1 n.1.1) l) (at1 (rw1 os2 n.1.2) l)
  rw [decide_eq_false (fun z => z hb)] at c1
  have hG : glP nx1 nx2 n.1 l = (l, (at1 (rw1 nx1 n.1.1) l, at1 (rw1 nx2 n.1.2) l)) := rfl
  generalize pairL (nx1, os1) = PA at *
  generalize pairL (nx2, os2) = PB at *
  generalize at1 (rw1 os1 n.1.1) l = u1 at *
  generalize at1 (rw1 os2 n.1.2) l = u2 at *
  generalize at1 (rw1 nx1 n.1.1) l = v1 at *
  generalize at1 (rw1 nx2 n.1.2) l = v2 at *
  rw [forB_eq, gnm_eq, lift_some, bind_ok]
  show lfI [some PA, some PB, some (nD L), some (metD f), some (.lst (f.map wtD)), a, some (wtD n), some (nD l), o8, o9] = _
  unfold lfI
  refine (chk_pass ?_).trans ?_
  · generalize wtD n = WN at *
    generalize rD (rw1 os1 n.1.1) = R1 at *
    generalize rD (rw1 os2 n.1.2) = R2 at *
    generalize nD n.1.1 = N1 at *
    generalize nD n.1.2 = N2 at *
    generalize nD u1 = U1 at *
    generalize nD u2 = U2 at *
    generalize nD l = LD at *
    generalize os1.map rD = OS at *
    generalize os2.map rD = OS2 at *
    simp [var, A1, B1, i0, i1, x1, x2, x3, x4, c1]
  refine (asg_pass (d := nD v1) ?_).trans ?_
  · generalize wtD n = WN at *
    generalize rD (rw1 nx1 n.1.1) = R1 at *
    generalize nD n.1.1 = N1 at *
    generalize nD v1 = V1 at *
    generalize nD l = LD at *
    generalize nx1.map rD = NX at *
    simp [var, A0, i0, y1, y3]
  refine (asg_pass (d := nD v2) ?_).trans ?_
  · generalize wtD n = WN at *
    generalize rD (rw1 nx2 n.1.2) = R1 at *
    generalize nD n.1.2 = N1 at *
    generalize nD v2 = V1 at *
    generalize nD l = LD at *
    generalize nx2.map rD = NX at *
    simp [var, B0, i1, y2, y4]
  show Py.ite _ _ _ [some PA, some PB, some (nD L), some (metD f), some (.lst (f.map wtD)), a, some (wtD n), some (nD l), some (nD v1), some (nD v2)] = _
  have tk := lf_tup2 (nD v1) (nD v2) [some PA, some PB, some (nD L), some (metD f), some (.lst (f.map wtD)), a, some (wtD n), some (nD l), some (nD v1), some (nD v2)] (var 8) (var 9) rfl rfl
  unfold addG
  rw [hG]
  dsimp only
  rw [ite_eq, tst_eq, bin_eq, tk, bind_ok]
  by_cases m : (v1, v2) ∈ f.map (·.1)
  · rw [if_pos m]
    have m2 : onotin (.tup [nD v1, nD v2]) (metD f) = .ok (.bl false) := met_has m
    generalize D.tup [nD v1, nD v2] = TT at *
    generalize metD f = MF at *
    simp [var, m2]
  · rw [if_neg m]
    have m2 : onotin (.tup [nD v1, nD v2]) (metD f) = .ok (.bl true) := met_not m
    have sl := met_put (i := 3) (j := tupE (argC (var 8) (argC (var 9) argN))) (m := cst (.bl true)) (e := [some PA, some PB, some (nD L), some (metD f), some (.lst (f.map wtD)), a, some (wtD n), some (nD l), some (nD v1), some (nD v2)]) (f := f) (g := (v1, v2)) (w := some (n.1, l)) (r := n.2.2 ++ [l]) rfl rfl tk m hz
    have ef : (f ++ [((v1, v2), some (n.1, l), n.2.2 ++ [l])]).map wtD = f.map wtD ++ [.tup [nD v1, nD v2, rD (n.2.2 ++ [l])]] := by
      rw [List.map_append]
      rfl
    have ad : oadd (rD n.2.2) (.tup [nD l]) = .ok (rD (n.2.2 ++ [l])) := by
      have : oadd (.tup (n.2.2.map nD)) (.tup [nD l]) = .ok (.tup (n.2.2.map nD ++ [nD l])) := if_pos (by
        rw [List.length_map, List.length_singleton]
        exact Nat.le_trans (show _ ≤ 1000000 by omega) (by decide))
      refine this.trans ?_
      unfold rD
      rw [List.map_append]
      rfl
    have z : (f.map wtD).length < SZ := by rw [List.length_map]; exact hz
    rw [ef]
    show ((onotin (.tup [nD v1, nD v2]) (metD f) >>= truthy) >>= _) = _
    rw [m2]
    show seq (setL 3 (tupE (argC (var 8) (argC (var 9) argN))) (cst (.bl true))) _ _ = _
    refine (seq_next sl).trans ?_
    generalize metD (f ++ [((v1, v2), some (n.1, l), n.2.2 ++ [l])]) = MF2 at *
    generalize rD (n.2.2 ++ [l]) = RR at *
    generalize rD n.2.2 = RN at *
    generalize wtD n = WN at *
    generalize f.map wtD = FW at *
    generalize nD v1 = V1 at *
    generalize nD v2 = V2 at *
    generalize nD l = LD at *
    simp only [var, app_eq, tupE_eq, argC_eq, argN_eq, bin_eq, cst_eq, List.set, List.getElem?_cons_succ, List.getElem?_cons_zero, bind_ok, i2, ad, List.length_cons, List.length_nil, Nat.zero_add, Nat.reduceAdd, z, if_pos, if_true]
    have k1 : chk 1 (D.tup [LD]) = .ok (.tup [LD]) := rfl
    rw [k1, bind_ok, ad]
    rfl
theorem lf_bad (o1 : Tbl S1 L 2 os1) (o2 : Tbl S2 L 2 os2) {n : Nd} (hn : n.1.1 < S1 ∧ n.1.2 < S2) (hr : n.2.2.length < 1000000) {l : Nat} (hl : l < L) (hb : at1 (rw1 os1 n.1.1) l ≠ at1 (rw1 os2 n.1.2) l) (f : List Nd) (a o7 o8 o9 : Option D) :
    forB (gnm 7) lfI (nD l) [some (pairL (nx1, os1)), some (pairL (nx2, os2)), some (nD L), some (metD f), some (.lst (f.map wtD)), a, some (wtD n), o7, o8, o9] = .ok (.ret (rD (n.2.2 ++ [l]))) := by
  have i0 : oidx (wtD n) (.int 0) = .ok (nD n.1.1) := rfl
  have i1 : oidx (wtD n) (.int 1) = .ok (nD n.1.2) := rfl
  have i2 : oidx (wtD n) (.int 2) = .ok (rD n.2.2) := rfl
  have A1 := pair1 (nx1, os1)
  have B1 := pair1 (nx2, os2)
  dsimp only at A1 B1
  have x1 := idx_tL o1 hn.1
  have x2 := idx_tL o2 hn.2
  have x3 := idx_nT (c := rw1 os1 n.1.1) (i := l) (by rw [(o1.at hn.1).2.1]; exact hl)
  have x4 := idx_nT (c := rw1 os2 n.1.2) (i := l) (by rw [(o2.at hn.2).2.1]; exact hl)
  have c1 := one_nD (at1 (rw1 os1 n.1.1) l) (at1 (rw1 os2 n.1.2) l)
  rw [decide_eq_true hb] at c1
  have ad : oadd (rD n.2.2) (.tup [nD l]) = .ok (rD (n.2.2 ++ [l])) := by
    have : oadd (.tup (n.2.2.map nD)) (.tup [nD l]) = .ok (.tup (n.2.2.map nD ++ [nD l])) := if_pos (by
      rw [List.length_map, List.length_singleton]
      exact Nat.le_trans (show _ ≤ 1000000 by omega) (by decide))
    refine this.trans ?_
    unfold rD
    rw [List.map_append]
    rfl
  generalize pairL (nx1, os1) = PA at *
  generalize pairL (nx2, os2) = PB at *
  generalize at1 (rw1 os1 n.1.1) l = u1 at *
  generalize at1 (rw1 os2 n.1.2) l = u2 at *
  rw [forB_eq, gnm_eq, lift_some, bind_ok]
  show lfI [some PA, some PB, some (nD L), some (metD f), some (.lst (f.map wtD)), a, some (wtD n), some (nD l), o8, o9] = _
  unfold lfI
  have cc : tst (bin Py.one (bin oidx (bin oidx (bin oidx (var 0) (cst (.int 1))) (bin oidx (var 6) (cst (.int 0)))) (var 7)) (bin oidx (bin oidx (bin oidx (var 1) (cst (.int 1))) (bin oidx (var 6) (cst (.int 1)))) (var 7))) [some PA, some PB, some (nD L), some (metD f), some (.lst (f.map wtD)), a, some (wtD n), some (nD l), o8, o9] = .ok true := by
    generalize wtD n = WN at *
    generalize rD (rw1 os1 n.1.1) = R1 at *
    generalize rD (rw1 os2 n.1.2) = R2 at *
    generalize nD n.1.1 = N1 at *
    generalize nD n.1.2 = N2 at *
    generalize nD u1 = U1 at *
    generalize nD u2 = U2 at *
    generalize nD l = LD at *
    generalize os1.map rD = OS at *
    generalize os2.map rD = OS2 at *
    simp [var, A1, B1, i0, i1, x1, x2, x3, x4, c1]
  rw [seq_eq, ite_eq, cc, bind_ok, if_pos rfl]
  have rr : ret (bin oadd (bin oidx (var 6) (cst (.int 2))) (tupE (argC (var 7) argN))) [some PA, some PB, some (nD L), some (metD f), some (.lst (f.map wtD)), a, some (wtD n), some (nD l), o8, o9] = .ok (.ret (rD (n.2.2 ++ [l]))) := by
    have k1 : chk 1 (D.tup [nD l]) = .ok (.tup [nD l]) := rfl
    generalize rD (n.2.2 ++ [l]) = RR at *
    generalize rD n.2.2 = RN at *
    generalize wtD n = WN at *
    generalize nD l = LD at *
    simp only [var, ret_eq, tupE_eq, argC_eq, argN_eq, bin_eq, cst_eq, List.getElem?_cons_succ, List.getElem?_cons_zero, bind_ok, i2, List.length_cons, List.length_nil, Nat.zero_add, k1, ad]
  rw [rr]
  rfl
theorem lf_inner (h1 : Tbl S1 L S1 nx1) (h2 : Tbl S2 L S2 nx2) (o1 : Tbl S1 L 2 os1) (o2 : Tbl S2 L 2 os2) {n : Nd} (hn : n.1.1 < S1 ∧ n.1.2 < S2) (hr : n.2.2.length < 1000000) (a : Option D) : ∀ (ls : List Nat) (f : List Nd) (o7 o8 o9 : Option D), (∀ l ∈ ls, l < L ∧ at1 (rw1 os1 n.1.1) l = at1 (rw1 os2 n.1.2) l) → f.length + ls.length < SZ →
    ∃ o7' o8' o9', forL (forB (gnm 7) lfI) (ls.map nD) [some (pairL (nx1, os1)), some (pairL (nx2, os2)), some (nD L), some (metD f), some (.lst (f.map wtD)), a, some (wtD n), o7, o8, o9] = .ok (.next [some (pairL (nx1, os1)), some (pairL (nx2, os2)), some (nD L), some (metD (fldG nx1 nx2 n f ls)), some (.lst ((fldG nx1 nx2 n f ls).map wtD)), a, some (wtD n), o7', o8', o9'])
  | [], f, o7, o8, o9, _, _ => ⟨o7, o8, o9, rfl⟩
  | l :: ls, f, o7, o8, o9, hl, hz => by
    rw [List.length_cons] at hz
    obtain ⟨l1, l2⟩ := hl l List.mem_cons_self
    have q1 := lf_good h1 h2 o1 o2 (f := f) hn l1 l2 (by omega) hr a o7 o8 o9
    obtain ⟨a1, _⟩ := addG_inv (n := n) (f := f) (g := glP nx1 nx2 n.1 l)
    obtain ⟨x, y, z, q2⟩ := lf_inner h1 h2 o1 o2 hn hr a ls (addG n.1 n.2.2 f (glP nx1 nx2 n.1 l)) (some (nD l)) (some (nD (at1 (rw1 nx1 n.1.1) l))) (some (nD (at1 (rw1 nx2 n.1.2) l))) (fun v hv => hl v (List.mem_cons_of_mem _ hv)) (by omega)
    refine ⟨x, y, z, ?_⟩
    rw [List.map_cons, forL, q1]
    exact q2
theorem lf_stop (h1 : Tbl S1 L S1 nx1) (h2 : Tbl S2 L S2 nx2) (o1 : Tbl S1 L 2 os1) (o2 : Tbl S2 L 2 os2) {n : Nd} (hn : n.1.1 < S1 ∧ n.1.2 < S2) (hr : n.2.2.length < 1000000) (a : Option D) {l : Nat} (hl : l < L) (hb : at1 (rw1 os1 n.1.1) l ≠ at1 (rw1 os2 n.1.2) l) (bs : List Nat) : ∀ (ls : List Nat) (f : List Nd) (o7 o8 o9 : Option D), (∀ l ∈ ls, l < L ∧ at1 (rw1 os1 n.1.1) l = at1 (rw1 os2 n.1.2) l) → f.length + ls.length < SZ →
    forL (forB (gnm 7) lfI) ((ls ++ l :: bs).map nD) [some (pairL (nx1, os1)), some (pairL (nx2, os2)), some (nD L), some (metD f), some (.lst (f.map wtD)), a, some (wtD n), o7, o8, o9] = .ok (.ret (rD (n.2.2 ++ [l])))
  | [], f, o7, o8, o9, _, _ => by
    rw [List.nil_append, List.map_cons, forL, lf_bad o1 o2 hn hr hl hb f a o7 o8 o9]
  | x :: ls, f, o7, o8, o9, hx, hz => by
    rw [List.length_cons] at hz
    obtain ⟨l1, l2⟩ := hx x List.mem_cons_self
    have q1 := lf_good h1 h2 o1 o2 (f := f) hn l1 l2 (by omega) hr a o7 o8 o9
    obtain ⟨a1, _⟩ := addG_inv (n := n) (f := f) (g := glP nx1 nx2 n.1 x)
    have q2 := lf_stop h1 h2 o1 o2 hn hr a hl hb bs ls (addG n.1 n.2.2 f (glP nx1 nx2 n.1 x)) (some (nD x)) (some (nD (at1 (rw1 nx1 n.1.1) x))) (some (nD (at1 (rw1 nx2 n.1.2) x))) (fun v hv => hx v (List.mem_cons_of_mem _ hv)) (by omega)
    rw [List.cons_append, List.map_cons, forL, q1]
    exact q2
theorem lf_loop (h1 : Tbl S1 L S1 nx1) (h2 : Tbl S2 L S2 nx2) (o1 : Tbl S1 L 2 os1) (o2 : Tbl S2 L 2 os2) (hL : L ≤ 8) {b : P2} (hb : b.1 < S1 ∧ b.2 < S2) (hU2 : S1 * S2 ≤ 160000) : ∀ (k : Nat) (f : List Nd) (a : Nat) (o5 o6 o7 o8 o9 : Option D), Wf (gsP L nx1 nx2) b f a →
    (bfsP (badP os1 os2) (gsP L nx1 nx2) k f a = none → (∃ e', forL (forB (gnm 5) lfB) ((List.range' a k).map fun i => .int ((i : Nat) : Int)) [some (pairL (nx1, os1)), some (pairL (nx2, os2)), some (nD L), some (metD f), some (.lst (f.map wtD)), o5, o6, o7, o8, o9] = .ok (.next e')) ∨ forL (forB (gnm 5) lfB) ((List.range' a k).map fun i => .int ((i : Nat) : Int)) [some (pairL (nx1, os1)), some (pairL (nx2, os2)), some (nD L), some (metD f), some (.lst (f.map wtD)), o5, o6, o7, o8, o9] = .ok (.ret .non)) ∧
    ∀ F A n, bfsP (badP os1 os2) (gsP L nx1 nx2) k f a = some (F, A) → F[A]? = some n → forL (forB (gnm 5) lfB) ((List.range' a k).map fun i => .int ((i : Nat) : Int)) [some (pairL (nx1, os1)), some (pairL (nx2, os2)), some (nD L), some (metD f), some (.lst (f.map wtD)), o5, o6, o7, o8, o9] = .ok (.ret (rD (readP L os1 os2 n)))
  | 0, f, a, o5, o6, o7, o8, o9, _ => ⟨fun _ => .inl ⟨_, rfl⟩, fun F A n h => by cases h⟩
  | k + 1, f, a, o5, o6, o7, o8, o9, hw => by
    have hsz := hw.size h1 h2 hb
    have e1 := lenN f wtD
    have e2 := ogeN a f.length
    rw [List.range'_succ, List.map_cons, forL]
    have e0 : forB (gnm 5) lfB (.int ((a : Nat) : Int)) [some (pairL (nx1, os1)), some (pairL (nx2, os2)), some (nD L), some (metD f), some (.lst (f.map wtD)), o5, o6, o7, o8, o9] = lfB [some (pairL (nx1, os1)), some (pairL (nx2, os2)), some (nD L), some (metD f), some (.lst (f.map wtD)), some (nD a), o6, o7, o8, o9] := rfl
    rw [e0, bfsP]
    cases hfa : f[a]? with
    | none =>
      have ha : f.length ≤ a := by
        by_cases c : a < f.length
        · rw [List.getElem?_eq_getElem c] at hfa
          cases hfa
        · omega
      rw [decide_eq_true ha] at e2
      have hb : lfB [some (pairL (nx1, os1)), some (pairL (nx2, os2)), some (nD L), some (metD f), some (.lst (f.map wtD)), some (nD a), o6, o7, o8, o9] = .ok (.ret .non) := by
        unfold lfB
        generalize pairL (nx1, os1) = PA at *
        generalize pairL (nx2, os2) = PB at *
        generalize f.map wtD = FW at *
        generalize nD a = AA at *
        generalize nD f.length = FL at *
        simp [var, e1, e2]
      rw [hb]
      exact ⟨fun _ => .inr rfl, fun F A n h => by cases h⟩
    | some n =>
      have ha := (List.getElem?_eq_some_iff.mp hfa).1
      rw [decide_eq_false (by omega)] at e2
      have hmem := List.mem_of_getElem? hfa
      have hn := hw.lt h1 h2 hb hmem
      have n3 := hw.rlen a n hfa
      have i0 : oidx (.lst (f.map wtD)) (nD a) = .ok (wtD n) := oidx_l (by rw [List.getElem?_map, hfa]; rfl)
      have pre : lfB [some (pairL (nx1, os1)), some (pairL (nx2, os2)), some (nD L), some (metD f), some (.lst (f.map wtD)), some (nD a), o6, o7, o8, o9] = forL (forB (gnm 7) lfI) ((List.range L).map nD) [some (pairL (nx1, os1)), some (pairL (nx2, os2)), some (nD L), some (metD f), some (.lst (f.map wtD)), some (nD a), some (wtD n), o7, o8, o9] := by
        unfold lfB
        refine (chk_pass ?_).trans ?_
        · generalize pairL (nx1, os1) = PA at *
          generalize pairL (nx2, os2) = PB at *
          generalize f.map wtD = FW at *
          generalize nD a = AA at *
          generalize nD f.length = FL at *
          simp [var, e1, e2]
        refine (asg_pass (d := wtD n) ?_).trans ?_
        · generalize pairL (nx1, os1) = PA at *
          generalize pairL (nx2, os2) = PB at *
          generalize wtD n = WN at *
          generalize f.map wtD = FW at *
          generalize nD a = AA at *
          simp [var, i0]
        rw [for_eq]
        have ir : irng1 (var 2) [some (pairL (nx1, os1)), some (pairL (nx2, os2)), some (nD L), some (metD f), some (.lst (f.map wtD)), some (nD a), some (wtD n), o7, o8, o9] = .ok ((List.range L).map fun i => .int ((i : Nat) : Int)) := irng1_nat (n := L) rfl (rng_lt (by omega))
        show (irng1 (var 2) [some (pairL (nx1, os1)), some (pairL (nx2, os2)), some (nD L), some (metD f), some (.lst (f.map wtD)), some (nD a), some (wtD n), o7, o8, o9] >>= _) = _
        rw [ir, bind_ok]
        rfl
      rw [pre]
      dsimp only
      by_cases c : rw1 os1 n.1.1 = rw1 os2 n.1.2
      · have cb : badP os1 os2 n.1 = false := by unfold badP; simp [c]
        rw [cb, if_neg (by decide)]
        obtain ⟨x, y, z, hi⟩ := lf_inner h1 h2 o1 o2 hn (by omega) (some (nD a)) (List.range L) f o7 o8 o9 (fun l hl => ⟨List.mem_range.mp hl, by rw [c]⟩) (Nat.lt_of_le_of_lt (show _ ≤ 160000 + 8 by rw [List.length_range]; omega) (by decide))
        rw [hi, fldG_gs]
        exact lf_loop h1 h2 o1 o2 hL hb hU2 k _ (a + 1) _ _ _ _ _ (hw.step hfa)
      · have cb : badP os1 os2 n.1 = true := by unfold badP; simp [c]
        rw [cb, if_pos rfl]
        obtain ⟨u1, u2, u3⟩ := fstU_ok (o1.at hn.1).2.1 (o2.at hn.2).2.1 c
        have er : List.range L = List.range (fstU L (rw1 os1 n.1.1) (rw1 os2 n.1.2)) ++ fstU L (rw1 os1 n.1.1) (rw1 os2 n.1.2) :: List.range' (fstU L (rw1 os1 n.1.1) (rw1 os2 n.1.2) + 1) (L - fstU L (rw1 os1 n.1.1) (rw1 os2 n.1.2) - 1) := by
          rw [← List.range'_succ, show L - fstU L (rw1 os1 n.1.1) (rw1 os2 n.1.2) - 1 + 1 = L - fstU L (rw1 os1 n.1.1) (rw1 os2 n.1.2) by omega, List.range_eq_range', List.range_eq_range']
          have := List.range'_append_1 (s := 0) (m := fstU L (rw1 os1 n.1.1) (rw1 os2 n.1.2)) (n := L - fstU L (rw1 os1 n.1.1) (rw1 os2 n.1.2))
          rw [Nat.zero_add] at this
          rw [this]
          congr 1
          omega
        have hs := lf_stop h1 h2 o1 o2 hn (by omega) (some (nD a)) u1 u2 (List.range' (fstU L (rw1 os1 n.1.1) (rw1 os2 n.1.2) + 1) (L - fstU L (rw1 os1 n.1.1) (rw1 os2 n.1.2) - 1)) (List.range (fstU L (rw1 os1 n.1.1) (rw1 os2 n.1.2))) f o7 o8 o9 (fun l hl => ⟨by have := List.mem_range.mp hl; omega, u3 l (List.mem_range.mp hl)⟩) (Nat.lt_of_le_of_lt (show _ ≤ 160000 + 8 by rw [List.length_range]; omega) (by decide))
        rw [← er] at hs
        rw [hs]
        refine ⟨(fun h => by cases h), fun F A n' h1 h2 => ?_⟩
        cases h1
        rw [hfa] at h2
        cases h2
        rfl
theorem law_first_ok (h1 : Tbl S1 L S1 nx1) (h2 : Tbl S2 L S2 nx2) (o1 : Tbl S1 L 2 os1) (o2 : Tbl S2 L 2 os2) (hS1 : 0 < S1) (hS2 : 0 < S2) (hT1 : S1 ≤ 400) (hT2 : S2 ≤ 400) (hL : L ≤ 8) : m_law_first [pairL (nx1, os1), pairL (nx2, os2)] = .ok (ansD L os1 os2 (seaP (S1 * S2) L nx1 os1 nx2 os2 (0, 0))) := by
  have hm : S1 * S2 ≤ 400 * 400 := Nat.mul_le_mul hT1 hT2
  obtain ⟨g1, g2⟩ := lf_loop h1 h2 o1 o2 hL (b := (0, 0)) ⟨hS1, hS2⟩ (by omega) (S1 * S2) [((0, 0), none, [])] 0 none none none none none (wf_0 _ (0, 0))
  have A0 := pair0 (nx1, os1)
  have B0 := pair0 (nx2, os2)
  dsimp only at A0 B0
  have l1 : blen (.lst (nx1.map rD)) = .ok (nD S1) := by rw [lenN, h1.len]
  have l1' : blen (.lst (nx2.map rD)) = .ok (nD S2) := by rw [lenN, h2.len]
  have i0 : oidx (.lst (nx1.map rD)) (.int 0) = .ok (rD (rw1 nx1 0)) := idx_tL (i := 0) h1 hS1
  have l2 : blen (rD (rw1 nx1 0)) = .ok (nD L) := (lenT (rw1 nx1 0) nD).trans (by rw [(h1.at hS1).2.1])
  have ml := nmul (a := S1) (b := S2) (by omega)
  have er : List.range (S1 * S2) = List.range' 0 (S1 * S2) := List.range_eq_range'
  have pre : ∀ r : Res Fl, forL (forB (gnm 5) lfB) ((List.range' 0 (S1 * S2)).map fun i => .int ((i : Nat) : Int)) [some (pairL (nx1, os1)), some (pairL (nx2, os2)), some (nD L), some (metD [((0, 0), none, [])]), some (.lst ([(((0, 0), none, []) : Nd)].map wtD)), none, none, none, none, none] = r → m_law_first [pairL (nx1, os1), pairL (nx2, os2)] = done (match r with | .ok (.next e) => ret (cst .non) e | .ok x => .ok x | .exc c fs => .exc c fs | .stuck => .stuck) := fun r hr => by
    unfold m_law_first
    rw [fn2]
    show done (seq _ (seq _ (seq _ (seq (for_ (irng1 (bin omul (un blen (bin oidx (var 0) (cst (.int 0)))) (un blen (bin oidx (var 1) (cst (.int 0)))))) (gnm 5) lfB) (ret (cst .non))))) [some (pairL (nx1, os1)), some (pairL (nx2, os2)), none, none, none, none, none, none, none, none]) = _
    refine congrArg done ?_
    refine (asg_pass (d := nD L) ?_).trans ?_
    · generalize pairL (nx1, os1) = PA at *
      generalize pairL (nx2, os2) = PB at *
      generalize nD L = LL at *
      generalize rD (rw1 nx1 0) = R0 at *
      generalize nx1.map rD = NX at *
      simp [var, A0, i0, l2]
    refine (asg_pass (d := metD [((0, 0), none, [])]) (dic1_eq (lf_tup2 (nD 0) (nD 0) _ _ _ rfl rfl) rfl (key_p2.ok (0, 0)))).trans ?_
    refine (asg_pass (d := .lst ([(((0, 0), none, []) : Nd)].map wtD)) rfl).trans ?_
    have ir : irng1 (bin omul (un blen (bin oidx (var 0) (cst (.int 0)))) (un blen (bin oidx (var 1) (cst (.int 0))))) [some (pairL (nx1, os1)), some (pairL (nx2, os2)), some (nD L), some (metD [((0, 0), none, [])]), some (.lst ([(((0, 0), none, []) : Nd)].map wtD)), none, none, none, none, none] = .ok ((List.range (S1 * S2)).map fun i => .int ((i : Nat) : Int)) := irng1_nat (n := S1 * S2) (by
      show _ = Res.ok (nD (S1 * S2))
      generalize pairL (nx1, os1) = PA at *
      generalize pairL (nx2, os2) = PB at *
      generalize nD (S1 * S2) = SS at *
      generalize nD S1 = T1 at *
      generalize nD S2 = T2 at *
      generalize nx1.map rD = NX at *
      generalize nx2.map rD = NX2 at *
      simp [var, A0, B0, l1, l1', ml]) (big_lt (by omega))
    rw [er] at ir
    rw [seq_eq]
    show ((irng1 (bin omul (un blen (bin oidx (var 0) (cst (.int 0)))) (un blen (bin oidx (var 1) (cst (.int 0))))) [some (pairL (nx1, os1)), some (pairL (nx2, os2)), some (nD L), some (metD [((0, 0), none, [])]), some (.lst ([(((0, 0), none, []) : Nd)].map wtD)), none, none, none, none, none] >>= fun xs => forL (forB (gnm 5) lfB) xs _) >>= fun fl => match fl with | .next e => ret (cst .non) e | x => .ok x) = _
    rw [ir, bind_ok]
    show (forL (forB (gnm 5) lfB) ((List.range' 0 (S1 * S2)).map fun i => .int ((i : Nat) : Int)) [some (pairL (nx1, os1)), some (pairL (nx2, os2)), some (nD L), some (metD [((0, 0), none, [])]), some (.lst ([(((0, 0), none, []) : Nd)].map wtD)), none, none, none, none, none] >>= fun fl => match fl with | .next e => ret (cst .non) e | x => .ok x) = _
    rw [hr]
    cases r with
    | ok x => cases x <;> rfl
    | exc c fs => rfl
    | stuck => rfl
  unfold seaP resP
  cases e : bfsP (badP os1 os2) (gsP L nx1 nx2) (S1 * S2) [((0, 0), none, [])] 0 with
  | none =>
    rcases g1 e with ⟨e', t⟩ | t
    · rw [pre _ t]
      rfl
    · rw [pre _ t]
      rfl
  | some x =>
    obtain ⟨F, A⟩ := x
    obtain ⟨_, _, n, n1, _⟩ := bfs_found (bad := badP os1 os2) (S1 * S2) _ 0 (wf_0 (gsP L nx1 nx2) (0, 0)) (fun i n hi => absurd hi (Nat.not_lt_zero _)) F A e
    have t := g2 F A n e n1
    rw [pre _ t]
    show Res.ok (rD (readP L os1 os2 n)) = Res.ok (ansD L os1 os2 (F[A]?))
    rw [n1]
    rfl
end
end Py.U
namespace Py.U
open PySem
theorem least_ok {n S : Nat} {nx os : List (List Nat)} (h1 : 1 ≤ n) (h3 : n ≤ 3) (h : Tbl S (2 ^ n) S nx) (ho : Tbl S (2 ^ n) 2 os) (h0 : 0 < S) (hz : S ≤ 999) : m_least_machine [macD n nx os] = .ok (macD n (lsN nx os) (lsO nx os)) := by
  have p8 := pow3 h1 h3
  have e1 : m_state_classes [macD n nx os] = .ok (.lst ((clsM nx os).map nD)) := scF_ok h ho.len h0 (by omega) (by omega)
  obtain ⟨c1, c2⟩ := clsM_lt h ho.len h0
  obtain ⟨g1, g2, g3, r, g4⟩ := fndM_ok h ho.len h0
  obtain ⟨o5, o6, q⟩ := lm_loop h hz (by omega) c1 c2 (n := n) (os := os) S FUEL [0] 0 none none (fnd_0 h0) cld_0 (by simp) (by omega) (Nat.lt_of_le_of_lt hz (by decide))
  have eb : bfsL (at1 (clsM nx os)) nx S [0] 0 = fndM nx os := by unfold fndM; rw [h.len]
  rw [eb] at q
  have ix0 : oidx (.lst ((clsM nx os).map nD)) (.int 0) = .ok (nD (at1 (clsM nx os) 0)) := idx_nL (i := 0) (by omega)
  have d1 : dic1 false (bin oidx (var 1) (cst (.int 0))) (cst (.int 0)) [some (macD n nx os), some (.lst ((clsM nx os).map nD)), some (.lst ([0].map nD)), none, none, none, none, none] = .ok (dicC (at1 (clsM nx os)) [0]) := dic1_eq (by
    show (oidx (.lst ((clsM nx os).map nD)) (.int 0)) = _
    exact ix0) rfl (key_nD.ok _)
  have lo : lcE (iseq (var 2)) [7] (gnm 7) yes (bin oidx (un (oattr ["Machine"] "outs") (var 0)) (var 7)) [some (macD n nx os), some (.lst ((clsM nx os).map nD)), some (.lst ((fndM nx os).map nD)), some (dicC (at1 (clsM nx os)) (fndM nx os)), some (.lst (((fndM nx os).map (rowN (at1 (clsM nx os)) nx (fndM nx os))).map rD)), o5, o6, none] = .ok (.lst ((lsO nx os).map rD)) := by
    have hO : (lsO nx os).map rD = (fndM nx os).map fun s => rD (rw1 os s) := by
      unfold lsO
      rw [List.map_map]
      rfl
    rw [hO]
    refine lc_mapI (k := nD) (ys := fndM nx os) rfl (le_sz (by omega)) fun y hy => ⟨_, rfl, ?_⟩
    have q := idx_tT ho (g1.lt y hy)
    have i3 := mac_os n nx os
    show _ = Res.ok (rD (rw1 os y))
    generalize rD (rw1 os y) = R at *
    generalize macD n nx os = M at *
    generalize os.map rD = OS at *
    generalize nD y = Y at *
    simp only [wipe]
    simp [var, q, i3]
  have mm := mach_made h1 h3 (lsN_tbl h ho.len h0) (lsO_tbl h ho h0) (by rw [g4]; simp) (by omega)
  have mi := mac_in n nx os
  unfold m_least_machine
  rw [fn1]
  unfold b_least_machine
  refine (congrArg done ((asg_pass (d := .lst ((clsM nx os).map nD)) ?_).trans ?_)).trans (done_ret _)
  · generalize macD n nx os = M at *
    simp [var, e1]
  refine (asg_pass (d := .lst ([0].map nD)) (by simp; rfl)).trans ?_
  refine (asg_pass d1).trans ?_
  refine (asg_pass (d := .lst []) (by simp)).trans ?_
  refine (seq_next (e' := [some (macD n nx os), some (.lst ((clsM nx os).map nD)), some (.lst ((fndM nx os).map nD)), some (dicC (at1 (clsM nx os)) (fndM nx os)), some (.lst (((fndM nx os).map (rowN (at1 (clsM nx os)) nx (fndM nx os))).map rD)), o5, o6, none]) q).trans ?_
  rw [ret_eq, call_eq, argC_eq, argC_eq, argC_eq, lo]
  change m_Machine [nD n, .lst (((fndM nx os).map (rowN (at1 (clsM nx os)) nx (fndM nx os))).map rD), .lst ((lsO nx os).map rD)] = _ at mm
  generalize macD n (lsN nx os) (lsO nx os) = RES at *
  generalize macD n nx os = M at *
  generalize ((fndM nx os).map (rowN (at1 (clsM nx os)) nx (fndM nx os))).map rD = R1 at *
  generalize (lsO nx os).map rD = R2 at *
  simp [var, mi, mm]
/-! ### the same line, the same machine -/
def saB : SM := (Py.ite (orT (notT (tst (un (oisi CS [.int]) (bin oidx (var 0) (var 2))))) (orT (tst (un (oisi CS [.bl]) (bin oidx (var 0) (var 2)))) (tst (bin Py.one (bin oidx (var 0) (var 2)) (bin oidx (var 1) (var 2)))))) (ret (cst (.bl false))) skip)
theorem same_ok {r : List Nat} (hr : r.length ≤ 1000000) : m_law_same [rD r, rD r] = .ok (.bl true) := by
  have t1 : oisi CS [.tup] (rD r) = .ok (.bl true) := rfl
  have lr : blen (rD r) = .ok (nD r.length) := lenT r nD
  have n1 : Py.one (nD r.length) (nD r.length) = .ok (.bl false) := by simp [nD]
  obtain ⟨e', lp, o2, rfl⟩ := forR_inv (b := forB (gnm 2) saB) (n := r.length) (e := [some (rD r), some (rD r), none]) (fun _ E => ∃ o2, E = [some (rD r), some (rD r), o2]) ⟨none, rfl⟩ (by
    rintro i E hi ⟨o2, rfl⟩
    have ix := idx_nT (c := r) (i := i) hi
    have t2 : oisi CS [.int] (nD (at1 r i)) = .ok (.bl true) := rfl
    have t3 : oisi CS [.bl] (nD (at1 r i)) = .ok (.bl false) := rfl
    have n2 : Py.one (nD (at1 r i)) (nD (at1 r i)) = .ok (.bl false) := by simp [nD]
    change oidx _ (.int (i : Int)) = _ at ix
    refine ⟨_, ?_, some (.int (i : Int)), rfl⟩
    rw [forB_eq, gnm_eq, lift_some, bind_ok]
    show saB [some (rD r), some (rD r), some (.int (i : Int))] = _
    unfold saB
    generalize nD (at1 r i) = V at *
    generalize rD r = RR at *
    generalize (i : Int) = I at *
    simp [var, ix, t2, t3, n2])
  have hr0 : irng1 (un blen (var 1)) [some (rD r), some (rD r), none] = .ok ((List.range r.length).map fun i => .int ((i : Nat) : Int)) := irng1_nat (n := r.length) lr (Nat.lt_of_le_of_lt hr (by decide))
  unfold m_law_same
  rw [fn2]
  show done (seq _ (seq (for_ (irng1 (un blen (var 1))) (gnm 2) saB) _) [some (rD r), some (rD r), none]) = _
  refine (congrArg done ((chk_pass ?_).trans ((for_pass hr0 lp).trans ?_))).trans (done_ret (.bl true))
  · generalize rD r = RR at *
    generalize nD r.length = RL at *
    simp [var, t1, lr, n1]
  · rfl
def isJ : SM := (Py.ite (notT (tst (call m_law_same (argC (bin oidx (bin oidx (var 3) (cst (.int 0))) (var 4)) (argC (bin oidx (bin oidx (var 3) (cst (.int 1))) (var 4)) argN))))) (ret (cst (.bl false))) skip)
def isQ : SM := (seq (Py.ite (orT (notT (tst (un (oisi CS [.tup]) (bin oidx (var 3) (cst (.int 0)))))) (tst (bin Py.one (un blen (bin oidx (var 3) (cst (.int 0)))) (un blen (bin oidx (var 3) (cst (.int 1))))))) (ret (cst (.bl false))) skip)
  (for_ (irng1 (un blen (bin oidx (var 3) (cst (.int 1))))) (gnm 4) (Py.ite (notT (tst (call m_law_same (argC (bin oidx (bin oidx (var 3) (cst (.int 0))) (var 4)) (argC (bin oidx (bin oidx (var 3) (cst (.int 1))) (var 4)) argN))))) (ret (cst (.bl false))) skip)))
theorem is_rows {S L B : Nat} {t : List (List Nat)} (h : Tbl S L B t) (hz : S ≤ 1000) (hL : L ≤ 1000) {M N P : D} (o3 o4 : Option D) : ∃ o4', forB (gnm 3) isQ (.tup [.tup (t.map rD), .lst (t.map rD)]) [some M, some N, some P, o3, o4] = .ok (.next [some M, some N, some P, some (.tup [.tup (t.map rD), .lst (t.map rD)]), o4']) := by
  have i0 : oidx (.tup [.tup (t.map rD), .lst (t.map rD)]) (.int 0) = .ok (.tup (t.map rD)) := rfl
  have i1 : oidx (.tup [.tup (t.map rD), .lst (t.map rD)]) (.int 1) = .ok (.lst (t.map rD)) := rfl
  have l1 : blen (.tup (t.map rD)) = .ok (nD S) := by rw [lenT, h.len]
  have l2 : blen (.lst (t.map rD)) = .ok (nD S) := by rw [lenN, h.len]
  have t1 : oisi CS [.tup] (.tup (t.map rD)) = .ok (.bl true) := rfl
  have n1 : Py.one (nD S) (nD S) = .ok (.bl false) := by simp [nD]
  obtain ⟨e', lp, o4', rfl⟩ := forR_inv (b := forB (gnm 4) isJ) (n := S) (e := [some M, some N, some P, some (.tup [.tup (t.map rD), .lst (t.map rD)]), o4]) (fun _ E => ∃ o4, E = [some M, some N, some P, some (.tup [.tup (t.map rD), .lst (t.map rD)]), o4]) ⟨o4, rfl⟩ (by
    rintro i E hi ⟨o4, rfl⟩
    have x1 := idx_tT h hi
    have x2 := idx_tL h hi
    have sm := same_ok (r := rw1 t i) (by rw [(h.at hi).2.1]; omega)
    change oidx _ (.int (i : Int)) = _ at x1
    change oidx _ (.int (i : Int)) = _ at x2
    refine ⟨_, ?_, some (.int (i : Int)), rfl⟩
    rw [forB_eq, gnm_eq, lift_some, bind_ok]
    show isJ [some M, some N, some P, some (.tup [.tup (t.map rD), .lst (t.map rD)]), some (.int (i : Int))] = _
    unfold isJ
    generalize D.tup [.tup (t.map rD), .lst (t.map rD)] = T at *
    generalize D.tup (t.map rD) = T1 at *
    generalize D.lst (t.map rD) = T2 at *
    generalize rD (rw1 t i) = R at *
    generalize (i : Int) = I at *
    simp [var, i0, i1, x1, x2, sm])
  refine ⟨o4', ?_⟩
  rw [forB_eq, gnm_eq, lift_some, bind_ok]
  show isQ [some M, some N, some P, some (.tup [.tup (t.map rD), .lst (t.map rD)]), o4] = _
  unfold isQ
  refine (chk_pass ?_).trans ?_
  · generalize D.tup [.tup (t.map rD), .lst (t.map rD)] = T at *
    generalize D.tup (t.map rD) = T1 at *
    generalize D.lst (t.map rD) = T2 at *
    generalize nD S = SS at *
    simp [var, i0, i1, l1, l2, t1, n1]
  · have hr : irng1 (un blen (bin oidx (var 3) (cst (.int 1)))) [some M, some N, some P, some (.tup [.tup (t.map rD), .lst (t.map rD)]), o4] = .ok ((List.range S).map fun i => .int ((i : Nat) : Int)) := irng1_nat (n := S) (by
      show _ = Res.ok (nD S)
      generalize D.tup [.tup (t.map rD), .lst (t.map rD)] = T at *
      generalize D.lst (t.map rD) = T2 at *
      generalize nD S = SS at *
      simp [var, i1, l2]) (rng_lt hz)
    rw [for_eq, hr, bind_ok]
    exact lp
theorem mlen_ok {n S L : Nat} {nx os : List (List Nat)} (h : Tbl S L S nx) (hz : S ≤ 1000) : lenX [("Machine", m_Machine_len)] (macD n nx os) = .ok (nD S) := by
  have e3 := mac_nx n nx os
  have f1 : m_Machine_len [macD n nx os] = .ok (nD S) := by
    unfold m_Machine_len
    rw [fn1]
    unfold b_Machine_len
    have : blen (.tup (nx.map rD)) = .ok (nD S) := by rw [lenT, h.len]
    generalize macD n nx os = R at *
    generalize nx.map rD = XS at *
    simp [var, e3, this]
  have hb : 0 ≤ (S : Int) ∧ (S : Int).natAbs < B62 := ⟨by omega, Nat.lt_of_le_of_lt (show _ ≤ 1000 by omega) (by decide)⟩
  show (match m_Machine_len [macD n nx os] with
    | .ok (.int n) => if 0 ≤ n ∧ n.natAbs < B62 then Res.ok (D.int n) else .stuck
    | _ => .stuck) = _
  rw [f1]
  show (if 0 ≤ (S : Int) ∧ (S : Int).natAbs < B62 then Res.ok (D.int (S : Int)) else .stuck) = _
  rw [if_pos hb]
  rfl
theorem is_ok {n S L : Nat} {nx os : List (List Nat)} (h : Tbl S L S nx) (h2 : Tbl S L 2 os) (hz : S ≤ 1000) (hL : L ≤ 1000) : m_law_is [macD n nx os, nD n, pairL (nx, os)] = .ok (.bl true) := by
  have e1 : oisi CS [.cls "Machine"] (macD n nx os) = .ok (.bl true) := rfl
  have e2 : oattr ["Machine"] "inputs" (macD n nx os) = .ok (nD n) := rfl
  have e3 := mac_nx n nx os
  have e4 := mac_os n nx os
  have e9 : Py.one (nD n) (nD n) = .ok (.bl false) := by simp [nD]
  have e10 : blen (.lst (nx.map rD)) = .ok (nD S) := by rw [lenN, h.len]
  have e12 : Py.one (nD S) (nD S) = .ok (.bl false) := by simp [nD]
  have e11 := mlen_ok (n := n) (os := os) h hz
  have P0 := pair0 (nx, os)
  have P1 := pair1 (nx, os)
  dsimp only at P0 P1
  obtain ⟨o4, q1⟩ := is_rows h hz hL (M := macD n nx os) (N := nD n) (P := pairL (nx, os)) none none
  obtain ⟨o4', q2⟩ := is_rows h2 hz hL (M := macD n nx os) (N := nD n) (P := pairL (nx, os)) (some (.tup [.tup (nx.map rD), .lst (nx.map rD)])) o4
  have lp : forL (forB (gnm 3) isQ) [.tup [.tup (nx.map rD), .lst (nx.map rD)], .tup [.tup (os.map rD), .lst (os.map rD)]] [some (macD n nx os), some (nD n), some (pairL (nx, os)), none, none] = .ok (.next [some (macD n nx os), some (nD n), some (pairL (nx, os)), some (.tup [.tup (os.map rD), .lst (os.map rD)]), o4']) := by
    rw [forL, q1]
    show forL _ [_] _ = _
    rw [forL, q2]
    rfl
  unfold m_law_is
  rw [fn3]
  show done (seq _ (seq (for_ _ (gnm 3) isQ) _) [some (macD n nx os), some (nD n), some (pairL (nx, os)), none, none]) = _
  refine (congrArg done ((chk_pass ?_).trans ((for_pass ?_ lp).trans rfl))).trans (done_ret (.bl true))
  · generalize macD n nx os = M at *
    generalize pairL (nx, os) = PL at *
    generalize D.lst (nx.map rD) = T2 at *
    generalize nD n = N at *
    generalize nD S = SS at *
    simp [var, e1, e2, e9, e10, e11, e12, P0]
  · generalize macD n nx os = M at *
    generalize pairL (nx, os) = PL at *
    generalize D.lst (nx.map rD) = T2 at *
    generalize D.tup (nx.map rD) = T1 at *
    generalize D.lst (os.map rD) = T4 at *
    generalize D.tup (os.map rD) = T3 at *
    simp [var, e3, e4, P0, P1]
/-- == of two machines -/
theorem eq_mac {n : Nat} {nx os nx' os' : List (List Nat)} : eqX [("Machine", m_Machine_eq)] (macD n nx os) (macD n nx' os') = .ok (.bl (decide (nx = nx' ∧ os = os'))) := by
  have pT : ∀ t : List (List Nat), plain (.tup (t.map rD)) = true := fun t => by
    show ((t.map rD).all (pl 63)) = true
    rw [List.all_eq_true]
    intro d hd
    obtain ⟨r, _, rfl⟩ := List.mem_map.mp hd
    show ((r.map nD).all (pl 62)) = true
    rw [List.all_eq_true]
    intro d hd
    obtain ⟨a, _, rfl⟩ := List.mem_map.mp hd
    rfl
  have eL : ∀ t u : List (List Nat), eqv.eqvL (t.map rD) (u.map rD) = decide (t = u) := fun t => by
    induction t with
    | nil => intro u; cases u <;> simp [eqv.eqvL]
    | cons a t ih =>
      intro u
      cases u with
      | nil => simp [eqv.eqvL]
      | cons b u =>
        simp only [List.map_cons, eqv.eqvL, rD_eq, ih u]
        by_cases q : a = b <;> by_cases r : t = u <;> simp [q, r]
  have eT : ∀ t u : List (List Nat), oeq (.tup (t.map rD)) (.tup (u.map rD)) = .ok (.bl (decide (t = u))) := fun t u => by
    unfold oeq
    rw [pT t, pT u]
    show Res.ok (D.bl (eqv.eqvL (t.map rD) (u.map rD))) = _
    rw [eL]
  have f : m_Machine_eq [macD n nx os, macD n nx' os'] = .ok (.bl (decide (nx = nx' ∧ os = os'))) := by
    have c1 : oisi CS [.cls "Machine"] (macD n nx' os') = .ok (.bl true) := rfl
    have c2 := mac_in n nx os
    have c2' := mac_in n nx' os'
    have c3 := mac_nx n nx os
    have c3' := mac_nx n nx' os'
    have c4 := mac_os n nx os
    have c4' := mac_os n nx' os'
    have q := nat_eqN n n
    rw [decide_eq_true rfl] at q
    have e1 := eT nx nx'
    have e2 := eT os os'
    unfold m_Machine_eq
    rw [fn2]
    unfold b_Machine_eq
    generalize macD n nx os = M1 at *
    generalize macD n nx' os' = M2 at *
    generalize D.tup (nx.map rD) = T1 at *
    generalize D.tup (nx'.map rD) = T2 at *
    generalize D.tup (os.map rD) = T3 at *
    generalize D.tup (os'.map rD) = T4 at *
    generalize nD n = N at *
    by_cases a : nx = nx'
    · rw [decide_eq_true a] at e1
      simp [var, c1, c2, c2', c3, c3', c4, c4', q, e1, e2, a]
    · rw [decide_eq_false a] at e1
      simp [var, c1, c2, c2', c3, c3', q, e1, a]
  show (if "Machine" = "Machine" then (match m_Machine_eq [macD n nx os, macD n nx' os'] with | .ok (.bl b) => Res.ok (D.bl b) | _ => .stuck) else .stuck) = _
  rw [f]
  rfl
end Py.U
namespace Py.U
open PySem
/-! ### a machine of other inputs -/
theorem trep_one (x W : Nat) (h : W ≤ 1000) : otrep (.tup [nD x]) (nD W) = .ok (rD (List.replicate W x)) := by
  have e0 : otrep (.tup [nD x]) (.int (W : Int)) = .ok (.tup (List.replicate (W : Int).toNat [nD x]).flatten) := if_pos ⟨by simp, by simpa using h⟩
  refine e0.trans ?_
  rw [Int.toNat_natCast]
  have e : ∀ n : Nat, (List.replicate n [nD x]).flatten = (List.replicate n x).map nD := fun n => by
    induction n with
    | zero => rfl
    | succ n ih => simp [List.replicate_succ, ih]
  rw [e]
  rfl
/-! ### rings -/
theorem bmin_nD (a b : Nat) : bmin2 (nD a) (nD b) = .ok (nD (if b < a then b else a)) := by
  unfold nD
  show Res.ok (D.int _) = _
  congr 2
  by_cases c : b < a
  · rw [if_pos c]
    simp
    omega
  · rw [if_neg c]
    simp
    omega
def rgB : SM := (seq (asg (gnm 6) (bin omod (bin oadd (var 5) (cst (.int 1))) (var 2)))
  (seq (asg (gnm 7) (bin oidx (var 0) (var 5)))
  (seq (app 3 (bin otrep (tupE (argC (var 6) argN)) (var 1)))
  (app 4 (bin otrep (tupE (argC (var 7) argN)) (var 1))))))
theorem ring_ok {bs : List Nat} {L : Nat} (hL : L ≤ 1000) (h0 : 0 < bs.length) (hz : bs.length ≤ 1000) (hb : ∀ b ∈ bs, b < 2) : ∃ t u, Tbl bs.length L bs.length t ∧ Tbl bs.length L 2 u ∧ m_law_ring [.lst (bs.map nD), nD L] = .ok (pairL (t, u)) := by
  obtain ⟨e', lp, t, u, o5, o6, o7, g1, g2, rfl⟩ := forR_inv (b := forB (gnm 5) rgB) (n := bs.length) (e := [some (.lst (bs.map nD)), some (nD L), some (nD bs.length), some (.lst []), some (.lst []), none, none, none])
    (fun i E => ∃ (t u : List (List Nat)) (o5 o6 o7 : Option D), Tbl i L bs.length t ∧ Tbl i L 2 u ∧ E = [some (.lst (bs.map nD)), some (nD L), some (nD bs.length), some (.lst (t.map rD)), some (.lst (u.map rD)), o5, o6, o7]) ⟨[], [], none, none, none, tbl_nil, tbl_nil, rfl⟩ (by
      rintro i E hi ⟨t, u, o5, o6, o7, g1, g2, rfl⟩
      have e1 : oadd (.int (i : Int)) (.int 1) = .ok (nD (i + 1)) := nadd i 1
      obtain ⟨a, ha, e2⟩ := mod_nD ((i + 1 : Nat) : Int) h0
      change omod (nD (i + 1)) _ = _ at e2
      have e3 := idx_nL (c := bs) (i := i) hi
      change oidx _ (.int (i : Int)) = _ at e3
      have hv := hb _ (at1_mem hi)
      generalize at1 bs i = v at *
      have e4 := trep_one a L hL
      have e5 := trep_one v L hL
      have z1 : (t.map rD).length < SZ := szN (by rw [g1.len]; omega)
      have z2 : (u.map rD).length < SZ := szN (by rw [g2.len]; omega)
      have r1 : (List.replicate L a).length = L ∧ ∀ x ∈ List.replicate L a, x < bs.length := ⟨by simp, fun x hx => by rw [List.eq_of_mem_replicate hx]; exact ha⟩
      have r2 : (List.replicate L v).length = L ∧ ∀ x ∈ List.replicate L v, x < 2 := ⟨by simp, fun x hx => by rw [List.eq_of_mem_replicate hx]; exact hv⟩
      have m1 : (t ++ [List.replicate L a]).map rD = t.map rD ++ [rD (List.replicate L a)] := by simp
      have m2 : (u ++ [List.replicate L v]).map rD = u.map rD ++ [rD (List.replicate L v)] := by simp
      refine ⟨_, ?_, t ++ [List.replicate L a], u ++ [List.replicate L v], some (.int (i : Int)), some (nD a), some (nD v), tbl_snoc g1 r1, tbl_snoc g2 r2, rfl⟩
      rw [forB_eq, gnm_eq, lift_some, bind_ok, m1, m2]
      show rgB [some (.lst (bs.map nD)), some (nD L), some (nD bs.length), some (.lst (t.map rD)), some (.lst (u.map rD)), some (.int (i : Int)), o6, o7] = _
      unfold rgB
      generalize rD (List.replicate L a) = RA at *
      generalize rD (List.replicate L v) = RV at *
      generalize t.map rD = TT at *
      generalize u.map rD = UU at *
      generalize nD (i + 1) = I1 at *
      generalize nD bs.length = BL at *
      generalize bs.map nD = BS at *
      generalize nD a = A at *
      generalize nD v = V at *
      generalize nD L = LL at *
      generalize (i : Int) = I at *
      simp [var, e1, e2, e3, e4, e5, z1, z2])
  refine ⟨t, u, g1, g2, ?_⟩
  have ln := lenN bs nD
  unfold m_law_ring
  rw [fn2]
  show done (seq (asg (gnm 2) _) (seq (asg (gnm 3) (lstE argN)) (seq (asg (gnm 4) (lstE argN)) (seq (for_ (irng1 (var 2)) (gnm 5) rgB) (ret (lstE (argC (var 3) (argC (var 4) argN))))))) [some (.lst (bs.map nD)), some (nD L), none, none, none, none, none, none]) = _
  refine (congrArg done ((asg_pass (d := nD bs.length) ?_).trans ((asg_pass (d := .lst []) (by simp)).trans ((asg_pass (d := .lst []) (by simp)).trans ((for_pass (irng1_nat (n := bs.length) rfl (rng_lt hz)) lp).trans ?_))))).trans (done_ret _)
  · generalize nD bs.length = BL at *
    generalize bs.map nD = BS at *
    simp [var, ln]
  · show _ = Res.ok (Fl.ret (D.lst [.lst (t.map rD), .lst (u.map rD)]))
    generalize t.map rD = TT at *
    generalize u.map rD = UU at *
    simp [var]
def rsI : SM := (Py.ite (tst (bin olt (bin oadd (var 6) (var 7)) (var 3))) (seq (asg (gnm 8) (bin bmin2 (bin oidx (var 4) (var 6)) (bin oidx (var 4) (bin oadd (var 6) (var 7)))))
  (seq (setL 4 (var 6) (var 8))
  (setL 4 (bin oadd (var 6) (var 7)) (var 8)))) skip)
theorem rs_inner {T P Q L a r : Nat} (hr : r = P ∨ r = Q) {ws : List Nat} (hw : ws.length = T) (ha : a < T) (o5 o8 : Option D) (o7 : Option D) : ∃ (ws' : List Nat) (o8' : Option D), ws'.length = T ∧ forB (gnm 7) rsI (nD r) [some (nD P), some (nD Q), some (nD L), some (nD T), some (.lst (ws.map nD)), o5, some (nD a), o7, o8, none, none] = .ok (.next [some (nD P), some (nD Q), some (nD L), some (nD T), some (.lst (ws'.map nD)), o5, some (nD a), some (nD r), o8', none, none]) := by
  have e1 := nadd a r
  have e2 := oltN (a + r) T
  rw [forB_eq, gnm_eq, lift_some, bind_ok]
  show ∃ (ws' : List Nat) (o8' : Option D), ws'.length = T ∧ rsI [some (nD P), some (nD Q), some (nD L), some (nD T), some (.lst (ws.map nD)), o5, some (nD a), some (nD r), o8, none, none] = _
  by_cases c : a + r < T
  · rw [decide_eq_true c] at e2
    have x1 := idx_nL (c := ws) (i := a) (by omega)
    have x2 := idx_nL (c := ws) (i := a + r) (by omega)
    have bm := bmin_nD (at1 ws a) (at1 ws (a + r))
    generalize (if at1 ws (a + r) < at1 ws a then at1 ws (a + r) else at1 ws a) = v at *
    have s1 : (ws.map nD).set a (nD v) = (ws.set a v).map nD := List.map_set.symm
    have s2 : ((ws.set a v).map nD).set (a + r) (nD v) = ((ws.set a v).set (a + r) v).map nD := List.map_set.symm
    refine ⟨(ws.set a v).set (a + r) v, some (nD v), by simp [hw], ?_⟩
    have g1 : setL 4 (var 6) (var 8) [some (nD P), some (nD Q), some (nD L), some (nD T), some (.lst (ws.map nD)), o5, some (nD a), some (nD r), some (nD v), none, none] = .ok (.next [some (nD P), some (nD Q), some (nD L), some (nD T), some (.lst ((ws.set a v).map nD)), o5, some (nD a), some (nD r), some (nD v), none, none]) := by
      rw [← s1]
      exact setL_ok (k := a) rfl rfl rfl (by simp [hw]; omega)
    have g2 : setL 4 (bin oadd (var 6) (var 7)) (var 8) [some (nD P), some (nD Q), some (nD L), some (nD T), some (.lst ((ws.set a v).map nD)), o5, some (nD a), some (nD r), some (nD v), none, none] = .ok (.next [some (nD P), some (nD Q), some (nD L), some (nD T), some (.lst (((ws.set a v).set (a + r) v).map nD)), o5, some (nD a), some (nD r), some (nD v), none, none]) := by
      rw [← s2]
      exact setL_ok (k := a + r) rfl rfl e1 (by simp [hw]; omega)
    unfold rsI
    have c1 : tst (bin olt (bin oadd (var 6) (var 7)) (var 3)) [some (nD P), some (nD Q), some (nD L), some (nD T), some (.lst (ws.map nD)), o5, some (nD a), some (nD r), o8, none, none] = .ok true := by
      generalize nD (a + r) = AR at *
      generalize nD a = A at *
      generalize nD r = R at *
      generalize nD T = TT at *
      simp [var, e1, e2]
    rw [ite_eq, c1, bind_ok, if_pos rfl]
    refine (asg_pass (d := nD v) ?_).trans ((seq_next g1).trans g2)
    generalize nD (at1 ws (a + r)) = B2 at *
    generalize nD (at1 ws a) = B1 at *
    generalize nD (a + r) = AR at *
    generalize nD a = A at *
    generalize nD r = R at *
    generalize nD v = V at *
    generalize ws.map nD = WS at *
    simp [var, x1, x2, e1, bm]
  · rw [decide_eq_false c] at e2
    refine ⟨ws, o8, hw, ?_⟩
    unfold rsI
    generalize nD (a + r) = AR at *
    generalize nD a = A at *
    generalize nD r = R at *
    generalize nD T = TT at *
    simp [var, e1, e2]
end Py.U
namespace Py.U
open PySem
theorem for_last {it : IM} {g : GM} {b : SM} {e e' : Env} {xs : List D} (h : it e = .ok xs) (h2 : forL (forB g b) xs e = .ok (.next e')) : for_ it g b e = .ok (.next e') := by
  rw [for_eq, h, bind_ok, h2]
theorem bint_p (b : Bool) : bint (.bl b) = .ok (nD (if b then 1 else 0)) := by cases b <;> rfl
def rsJ : SM := for_ (iseq (lstE (argC (var 0) (argC (var 1) argN)))) (gnm 7) rsI
def rsK : SM := for_ (irng1 (var 3)) (gnm 6) rsJ
theorem rs_mid {T P Q L a : Nat} {ws : List Nat} (hw : ws.length = T) (ha : a < T) (o5 o6 o7 o8 : Option D) : ∃ (ws' : List Nat) (o7' o8' : Option D), ws'.length = T ∧ forB (gnm 6) rsJ (nD a) [some (nD P), some (nD Q), some (nD L), some (nD T), some (.lst (ws.map nD)), o5, o6, o7, o8, none, none] = .ok (.next [some (nD P), some (nD Q), some (nD L), some (nD T), some (.lst (ws'.map nD)), o5, some (nD a), o7', o8', none, none]) := by
  obtain ⟨w1, p8, h1, e1⟩ := rs_inner (P := P) (Q := Q) (L := L) (r := P) (.inl rfl) hw ha o5 o8 o7
  obtain ⟨w2, q8, h2, e2⟩ := rs_inner (P := P) (Q := Q) (L := L) (r := Q) (.inr rfl) h1 ha o5 p8 (some (nD P))
  refine ⟨w2, some (nD Q), q8, h2, ?_⟩
  rw [forB_eq, gnm_eq, lift_some, bind_ok]
  show rsJ [some (nD P), some (nD Q), some (nD L), some (nD T), some (.lst (ws.map nD)), o5, some (nD a), o7, o8, none, none] = _
  unfold rsJ
  refine for_last (xs := [nD P, nD Q]) ?_ ?_
  · generalize nD P = PP at *
    generalize nD Q = QQ at *
    simp [var]
  · rw [forL, e1]
    show forL _ [_] _ = _
    rw [forL, e2]
    rfl
theorem rs_outer {T P Q L : Nat} (hT : T ≤ 1000) {ws : List Nat} (hw : ws.length = T) : ∃ (ws' : List Nat) (o5 o6 o7 o8 : Option D), ws'.length = T ∧ forL (forB (gnm 5) rsK) ((List.range T).map fun i => .int ((i : Nat) : Int)) [some (nD P), some (nD Q), some (nD L), some (nD T), some (.lst (ws.map nD)), none, none, none, none, none, none] = .ok (.next [some (nD P), some (nD Q), some (nD L), some (nD T), some (.lst (ws'.map nD)), o5, o6, o7, o8, none, none]) := by
  obtain ⟨e', lp, w, o5, o6, o7, o8, h, rfl⟩ := forR_inv (b := forB (gnm 5) rsK) (n := T) (e := [some (nD P), some (nD Q), some (nD L), some (nD T), some (.lst (ws.map nD)), none, none, none, none, none, none])
    (fun _ E => ∃ (w : List Nat) (o5 o6 o7 o8 : Option D), w.length = T ∧ E = [some (nD P), some (nD Q), some (nD L), some (nD T), some (.lst (w.map nD)), o5, o6, o7, o8, none, none]) ⟨ws, none, none, none, none, hw, rfl⟩ (by
      rintro i E hi ⟨w, o5, o6, o7, o8, h, rfl⟩
      obtain ⟨e', lp, w2, o6', o7', o8', h2, rfl⟩ := forR_inv (b := forB (gnm 6) rsJ) (n := T) (e := [some (nD P), some (nD Q), some (nD L), some (nD T), some (.lst (w.map nD)), some (nD i), o6, o7, o8, none, none])
        (fun _ E => ∃ (w : List Nat) (o6 o7 o8 : Option D), w.length = T ∧ E = [some (nD P), some (nD Q), some (nD L), some (nD T), some (.lst (w.map nD)), some (nD i), o6, o7, o8, none, none]) ⟨w, o6, o7, o8, h, rfl⟩ (by
          rintro a E ha ⟨w, o6, o7, o8, h, rfl⟩
          obtain ⟨w', p7, p8, h', e⟩ := rs_mid (P := P) (Q := Q) (L := L) h ha (some (nD i)) o6 o7 o8
          exact ⟨_, e, w', some (nD a), p7, p8, h', rfl⟩)
      refine ⟨_, ?_, w2, some (nD i), o6', o7', o8', h2, rfl⟩
      rw [forB_eq, gnm_eq, lift_some, bind_ok]
      show rsK [some (nD P), some (nD Q), some (nD L), some (nD T), some (.lst (w.map nD)), some (nD i), o6, o7, o8, none, none] = _
      unfold rsK
      exact for_last (irng1_nat (n := T) rfl (rng_lt hT)) lp)
  exact ⟨w, o5, o6, o7, o8, h, lp⟩
theorem rings_ok {P Q L : Nat} (hL : L ≤ 1000) (hP : 2 ≤ P) (hQ : 2 ≤ Q) (hz : P + Q ≤ 1000) : ∃ t u t' u', Tbl P L P t ∧ Tbl P L 2 u ∧ Tbl Q L Q t' ∧ Tbl Q L 2 u' ∧ m_law_rings [nD P, nD Q, nD L] = .ok (.lst [pairL (t, u), pairL (t', u')]) := by
  have ad := nadd P Q
  have sb : osub (nD (P + Q)) (.int 2) = .ok (nD (P + Q - 2)) := nsub (b := 2) (by omega)
  have hTP : P ≤ P + Q - 2 := by omega
  have hTQ : Q ≤ P + Q - 2 := by omega
  have hT : P + Q - 2 ≤ 1000 := by omega
  generalize hTT : P + Q - 2 = T at *
  obtain ⟨ws, o5, o6, o7, o8, hw, lp⟩ := rs_outer (P := P) (Q := Q) (L := L) hT (ws := List.range T) (by simp)
  have lr : lrngE (irng1 (var 3)) [some (nD P), some (nD Q), some (nD L), some (nD T), none, none, none, none, none, none, none] = .ok (.lst ((List.range T).map nD)) := by
    unfold lrngE
    rw [irng1_nat (n := T) rfl (rng_lt hT), bind_ok, if_pos (by rw [List.length_map, List.length_range]; omega)]
    rfl
  have lc : lcE (iseq (var 4)) [10] (gnm 10) yes (un bint (bin oeq (var 10) (cst (.int 0)))) [some (nD P), some (nD Q), some (nD L), some (nD T), some (.lst (ws.map nD)), o5, o6, o7, o8, none, none] = .ok (.lst ((ws.map fun w => if decide (w = 0) = true then 1 else 0).map nD)) := by
    rw [List.map_map]
    refine lc_mapI (k := nD) rfl (le_sz (by omega)) fun w _ => ?_
    have q : oeq (nD w) (.int 0) = .ok (.bl (decide (w = 0))) := nat_eqN w 0
    have b := bint_p (decide (w = 0))
    show ∃ e1, _ ∧ _ = Res.ok (nD (if decide (w = 0) = true then 1 else 0))
    generalize nD (if decide (w = 0) = true then 1 else 0) = Z at *
    generalize nD w = W at *
    generalize decide (w = 0) = dw at *
    refine ⟨_, rfl, ?_⟩
    simp only [wipe]
    show ((oeq W (.int 0)) >>= bint) = _
    rw [q, bind_ok, b]
  have hb : ∀ b ∈ (ws.map fun w => if decide (w = 0) = true then 1 else 0), b < 2 := fun b hb => by
    obtain ⟨w, _, rfl⟩ := List.mem_map.mp hb
    split <;> omega
  have hbl : (ws.map fun w => if decide (w = 0) = true then 1 else 0 : List Nat).length = T := by rw [List.length_map]; exact hw
  generalize (ws.map fun w => if decide (w = 0) = true then 1 else 0 : List Nat) = bs at *
  have take_lt : ∀ k, ∀ b ∈ bs.take k, b < 2 := fun k b h => hb b (List.mem_of_mem_take h)
  have lP : (bs.take P).length = P := by rw [List.length_take]; omega
  have lQ : (bs.take Q).length = Q := by rw [List.length_take]; omega
  obtain ⟨t, u, g1, g2, r1⟩ := ring_ok (bs := bs.take P) hL (by omega) (by omega) (take_lt P)
  obtain ⟨t', u', g3, g4, r2⟩ := ring_ok (bs := bs.take Q) hL (by omega) (by omega) (take_lt Q)
  rw [lP] at g1 g2
  rw [lQ] at g3 g4
  refine ⟨t, u, t', u', g1, g2, g3, g4, ?_⟩
  have c1 : oslc (.lst (bs.map nD)) none (some (P : Int)) = .ok (.lst ((bs.take P).map nD)) := by
    rw [oslc_l, cut_take _ (by rw [List.length_map]; omega), List.map_take]
  have c2 : oslc (.lst (bs.map nD)) none (some (Q : Int)) = .ok (.lst ((bs.take Q).map nD)) := by
    rw [oslc_l, cut_take _ (by rw [List.length_map]; omega), List.map_take]
  unfold m_law_rings
  rw [fn3]
  show done (seq (asg (gnm 3) _) (seq (asg (gnm 4) _) (seq (for_ (irng1 (var 3)) (gnm 5) rsK) (seq (asg (gnm 9) _) _))) [some (nD P), some (nD Q), some (nD L), none, none, none, none, none, none, none, none]) = _
  refine (congrArg done ((asg_pass (d := nD T) ?_).trans ((asg_pass lr).trans ((for_pass (irng1_nat (n := T) rfl (rng_lt hT)) lp).trans ((asg_pass lc).trans ?_))))).trans (done_ret _)
  · generalize nD T = TT at *
    generalize nD (P + Q) = PQ at *
    generalize nD P = PP at *
    generalize nD Q = QQ at *
    simp [var, ad, sb]
  · have v1 : slc (var 9) none (some (var 0)) [some (nD P), some (nD Q), some (nD L), some (nD T), some (.lst (ws.map nD)), o5, o6, o7, o8, some (.lst (bs.map nD)), none] = .ok (.lst ((bs.take P).map nD)) := c1
    have v2 : slc (var 9) none (some (var 1)) [some (nD P), some (nD Q), some (nD L), some (nD T), some (.lst (ws.map nD)), o5, o6, o7, o8, some (.lst (bs.map nD)), none] = .ok (.lst ((bs.take Q).map nD)) := c2
    show (ret (lstE (argC (call m_law_ring (argC (slc (var 9) none (some (var 0))) (argC (var 2) argN))) (argC (call m_law_ring (argC (slc (var 9) none (some (var 1))) (argC (var 2) argN))) argN)))) [some (nD P), some (nD Q), some (nD L), some (nD T), some (.lst (ws.map nD)), o5, o6, o7, o8, some (.lst (bs.map nD)), none] = _
    simp only [ret_eq, lstE_eq, argC_eq, argN_eq, call_eq, v1, v2, bind_ok]
    generalize D.lst ((bs.take P).map nD) = B1 at *
    generalize D.lst ((bs.take Q).map nD) = B2 at *
    generalize pairL (t, u) = P1 at *
    generalize pairL (t', u') = P2 at *
    generalize nD L = LL at *
    simp [var, r1, r2]
end Py.U
namespace Py.U
open PySem
/-! ### two machines drawn -/
structure Mac (n S : Nat) (p : Pr) : Prop where
  nx : Tbl S (2 ^ n) S p.1
  os : Tbl S (2 ^ n) 2 p.2
  pos : 0 < S
  top : S ≤ 201
def twE2 : SM := (seq (Py.ite (tst (bin oeq (bin omod (bin oidx (var 2) (cst (.int 0))) (cst (.int 2))) (cst (.int 1)))) (asg (gnm 9) (call m_law_spoilt (argC (var 9) (argC (call m_law_draws (argC (call m_law_cell (argC (var 0) (argC (cst (.int 5)) argN))) (argC (lstE (argC (cst (.int 2)) (argC (cst (.int 12)) (argC (cst (.int 8)) (argC (cst (.int 11)) argN))))) argN))) argN)))) skip)
  (ret (lstE (argC (var 8) (argC (var 9) argN)))))
def twE : SM := (seq (asg (gnm 10) (bin oadd (cst (.int 1)) (bin omod (bin oidx (var 2) (cst (.int 1))) (cst (.int 4)))))
  (seq (asg (gnm 11) (call m_law_table (argC (call m_law_cell (argC (var 0) (argC (cst (.int 1)) argN))) (argC (var 10) (argC (var 1) (argC (var 10) argN))))))
  (seq (asg (gnm 12) (call m_law_table (argC (call m_law_cell (argC (var 0) (argC (cst (.int 2)) argN))) (argC (var 10) (argC (var 1) (argC (cst (.int 2)) argN))))))
  (seq (asg (gnm 8) (call m_law_copied (argC (call m_law_cell (argC (var 0) (argC (cst (.int 3)) argN))) (argC (var 11) (argC (var 12) (argC (bin oadd (var 10) (bin omod (bin oidx (var 2) (cst (.int 2))) (bin osub (cst (.int 13)) (var 10)))) argN))))))
  (seq (asg (gnm 9) (call m_law_copied (argC (call m_law_cell (argC (var 0) (argC (cst (.int 4)) argN))) (argC (var 11) (argC (var 12) (argC (bin oadd (var 10) (bin omod (bin oidx (var 2) (cst (.int 3))) (bin osub (cst (.int 13)) (var 10)))) argN))))))
  twE2)))))
theorem drawn4 {ds : List Int} {a b c d : Int} (H : Drawn ds [a, b, c, d]) : ∃ x0 x1 x2 x3, ds = [x0, x1, x2, x3] := by
  match ds, H with
  | [x0, x1, x2, x3], _ => exact ⟨x0, x1, x2, x3, rfl⟩
theorem twE_ok (ns : List Int) {n : Nat} (h1 : 1 ≤ n) (h3 : n ≤ 3) (d0 d1 d2 d3 : Int) {DS : D} (i0 : oidx DS (.int 0) = .ok (.int d0)) (i1 : oidx DS (.int 1) = .ok (.int d1)) (i2 : oidx DS (.int 2) = .ok (.int d2)) (i3 : oidx DS (.int 3) = .ok (.int d3)) (o3 : Option D) :
    ∃ S1 S2 p q, Mac n S1 p ∧ Mac n S2 q ∧ twE [some (.lst (ns.map .int)), some (nD (2 ^ n)), some DS, none, none, none, none, none, none, none, none, none, none] = .ok (.ret (.lst [pairL p, pairL q])) := by
  have p8 := pow3 h1 h3
  have pp : 0 < 2 ^ n := Nat.two_pow_pos n
  obtain ⟨q, hq, e1⟩ := mod_nD d1 (n := 4) (by decide)
  change omod (.int d1) (.int 4) = _ at e1
  have e2 : oadd (.int 1) (nD q) = .ok (nD (1 + q)) := nadd 1 q
  obtain ⟨c, t, t1, hc, t2⟩ := table_at ns 1 (S := 1 + q) (B := 1 + q) h1 h3 (by omega) (by omega) (by omega)
  obtain ⟨c', u, u1, hc', u2⟩ := table_at ns 2 (S := 1 + q) (B := 2) h1 h3 (by omega) (by omega) (by omega)
  obtain ⟨c3, hc3⟩ := cell_ok ns 3
  obtain ⟨c4, hc4⟩ := cell_ok ns 4
  obtain ⟨c5, hc5⟩ := cell_ok ns 5
  have hc1' : m_law_cell [.lst (ns.map .int), .int 1] = .ok (.int c) := hc
  have hc2' : m_law_cell [.lst (ns.map .int), .int 2] = .ok (.int c') := hc'
  have hc3' : m_law_cell [.lst (ns.map .int), .int 3] = .ok (.int c3) := hc3
  have hc4' : m_law_cell [.lst (ns.map .int), .int 4] = .ok (.int c4) := hc4
  have hc5' : m_law_cell [.lst (ns.map .int), .int 5] = .ok (.int c5) := hc5
  have e3 : osub (.int 13) (nD (1 + q)) = .ok (nD (13 - (1 + q))) := nsub (a := 13) (b := 1 + q) (by omega)
  obtain ⟨r, hr, e5⟩ := mod_nD d2 (n := 13 - (1 + q)) (by omega)
  have e7 : oadd (nD (1 + q)) (nD r) = .ok (nD (1 + q + r)) := nadd _ _
  obtain ⟨r', hr', e5'⟩ := mod_nD d3 (n := 13 - (1 + q)) (by omega)
  have e7' : oadd (nD (1 + q)) (nD r') = .ok (nD (1 + q + r')) := nadd _ _
  obtain ⟨t', u', w1, w2, w3⟩ := copied_ok c3 (own := 1 + q) (st := 1 + q + r) (L := 2 ^ n) (by omega) (by omega) (by omega) (by omega) t1 u1
  obtain ⟨t'', u'', v1, v2, v3⟩ := copied_ok c4 (own := 1 + q) (st := 1 + q + r') (L := 2 ^ n) (by omega) (by omega) (by omega) (by omega) t1 u1
  obtain ⟨ds, hdr, hd⟩ := draws_ok c5 [2, 12, 8, 11] (by simp) (by simp)
  obtain ⟨x0, x1, x2, x3, rfl⟩ := drawn4 hdr
  obtain ⟨ts, us, z1, z2, z3⟩ := spoilt_ok v1 v2 (by omega) (by omega) pp x0 x1 x2 x3
  change m_law_draws [_, .lst [.int 2, .int 12, .int 8, .int 11]] = .ok (.lst [.int x0, .int x1, .int x2, .int x3]) at hd
  change m_law_table [_, _, _, .int 2] = _ at u2
  change _ = Res.ok (pairL (t', u')) at w3
  change _ = Res.ok (pairL (t'', u'')) at v3
  have m0 : omod (.int d0) (.int 2) = .ok (.int (d0 % 2)) := omod_ii (by decide)
  have pre : ∀ w, twE2 [some (.lst (ns.map .int)), some (nD (2 ^ n)), some DS, none, none, none, none, none, some (pairL (t', u')), some (pairL (t'', u'')), some (nD (1 + q)), some (.lst (t.map rD)), some (.lst (u.map rD))] = w → twE [some (.lst (ns.map .int)), some (nD (2 ^ n)), some DS, none, none, none, none, none, none, none, none, none, none] = w := fun w hw => by
    unfold twE
    generalize pairL (t', u') = P1 at *
    generalize pairL (t'', u'') = P2 at *
    generalize D.lst (t.map rD) = T at *
    generalize D.lst (u.map rD) = U at *
    generalize nD (1 + q + r) = Q1 at *
    generalize nD (1 + q + r') = Q2 at *
    generalize nD (13 - (1 + q)) = X1 at *
    generalize nD (1 + q) = SS at *
    generalize nD r = R at *
    generalize nD r' = R' at *
    generalize nD q = Q at *
    generalize nD (2 ^ n) = P at *
    generalize ns.map D.int = NS at *
    refine (asg_pass (d := SS) (by simp [var, i1, e1, e2])).trans ?_
    refine (asg_pass (d := T) (by simp [var, hc1', t2])).trans ?_
    refine (asg_pass (d := U) (by simp [var, hc2', u2])).trans ?_
    refine (asg_pass (d := P1) (by simp [var, hc3', i2, e3, e5, e7, w3])).trans ?_
    refine (asg_pass (d := P2) (by simp [var, hc4', i3, e3, e5', e7', v3])).trans ?_
    exact hw
  by_cases cc : d0 % 2 = 1
  · refine ⟨1 + q + r, 1 + q + r', (t', u'), (ts, us), ⟨w1, w2, by omega, by omega⟩, ⟨z1, z2, by omega, by omega⟩, pre _ ?_⟩
    generalize pairL (t', u') = P1 at *
    generalize pairL (t'', u'') = P2 at *
    generalize pairL (ts, us) = P3 at *
    generalize D.lst (t.map rD) = T at *
    generalize D.lst (u.map rD) = U at *
    generalize D.lst [.int x0, .int x1, .int x2, .int x3] = XS at *
    generalize ns.map D.int = NS at *
    simp [twE2, var, i0, m0, cc, hc5', hd, z3]
  · refine ⟨1 + q + r, 1 + q + r', (t', u'), (t'', u''), ⟨w1, w2, by omega, by omega⟩, ⟨v1, v2, by omega, by omega⟩, pre _ ?_⟩
    generalize pairL (t', u') = P1 at *
    generalize pairL (t'', u'') = P2 at *
    generalize D.lst (t.map rD) = T at *
    generalize D.lst (u.map rD) = U at *
    generalize ns.map D.int = NS at *
    simp [twE2, var, i0, m0, cc]
theorem two_ok (ns : List Int) {n : Nat} (h1 : 1 ≤ n) (h3 : n ≤ 3) (d0 d1 d2 d3 d4 : Int) : ∃ S1 S2 p q, Mac n S1 p ∧ Mac n S2 q ∧ m_law_two [.lst (ns.map .int), nD (2 ^ n), .lst [.int d0, .int d1, .int d2, .int d3, .int d4]] = .ok (.lst [pairL p, pairL q]) := by
  have p8 := pow3 h1 h3
  have pp : 0 < 2 ^ n := Nat.two_pow_pos n
  generalize hDD : D.lst [.int d0, .int d1, .int d2, .int d3, .int d4] = DD
  have y0 : oidx DD (.int 0) = .ok (.int d0) := by rw [← hDD]; rfl
  have y1 : oidx DD (.int 1) = .ok (.int d1) := by rw [← hDD]; rfl
  have y2 : oidx DD (.int 2) = .ok (.int d2) := by rw [← hDD]; rfl
  have y3 : oidx DD (.int 3) = .ok (.int d3) := by rw [← hDD]; rfl
  have y4 : oidx DD (.int 4) = .ok (.int d4) := by rw [← hDD]; rfl
  clear hDD
  by_cases c0 : d0 = 0
  · obtain ⟨k, hk, e1⟩ := mod_nD d1 (n := 5) (by decide)
    change omod (.int d1) (.int 5) = _ at e1
    have e2 : oadd (.int 2) (nD k) = .ok (nD (2 + k)) := nadd 2 k
    have e3 : oadd (nD (2 + k)) (.int 1) = .ok (nD (2 + k + 1)) := nadd (2 + k) 1
    have e4 : omul (.int 2) (nD (2 + k)) = .ok (nD (2 * (2 + k))) := nmul (a := 2) (by decide)
    have e5 : oadd (nD (2 * (2 + k))) (.int 1) = .ok (nD (2 * (2 + k) + 1)) := nadd _ 1
    have m2 : omod (.int d2) (.int 2) = .ok (.int (d2 % 2)) := omod_ii (by decide)
    have m3 : omod (.int d3) (.int 2) = .ok (.int (d3 % 2)) := omod_ii (by decide)
    have i0 : ∀ a b : D, oidx (.lst [a, b]) (.int 0) = .ok a := fun _ _ => rfl
    have i1 : ∀ a b : D, oidx (.lst [a, b]) (.int 1) = .ok b := fun _ _ => rfl
    obtain ⟨Q, hQ, hQ2, eQ⟩ : ∃ Q : Nat, 2 ≤ Q ∧ Q ≤ 13 ∧ oidx (.lst [nD (2 + k + 1), nD (2 * (2 + k) + 1)]) (.int (d2 % 2)) = .ok (nD Q) := by
      have : d2 % 2 = 0 ∨ d2 % 2 = 1 := by omega
      rcases this with e | e <;> rw [e]
      · exact ⟨_, by omega, by omega, i0 _ _⟩
      · exact ⟨_, by omega, by omega, i1 _ _⟩
    obtain ⟨t, u, t', u', g1, g2, g3, g4, er⟩ := rings_ok (P := 2 + k) (Q := Q) (L := 2 ^ n) (by omega) (by omega) hQ (by omega)
    have cc : tst (bin oeq (bin oidx (var 2) (cst (.int 0))) (cst (.int 0))) [some (.lst (ns.map .int)), some (nD (2 ^ n)), some DD, none, none, none, none, none, none, none, none, none, none] = .ok true := by
      generalize nD (2 ^ n) = P at *
      generalize ns.map D.int = NS at *
      simp [var, y0, c0]
    have pre : ∀ w, (seq (Py.ite (tst (bin oeq (bin omod (bin oidx (var 2) (cst (.int 3))) (cst (.int 2))) (cst (.int 1)))) (ret (lstE (argC (bin oidx (var 5) (cst (.int 1))) (argC (bin oidx (var 5) (cst (.int 0))) argN)))) skip) (ret (var 5))) [some (.lst (ns.map .int)), some (nD (2 ^ n)), some DD, some (nD (2 + k)), some (nD Q), some (.lst [pairL (t, u), pairL (t', u')]), none, none, none, none, none, none, none] = .ok (.ret w) → m_law_two [.lst (ns.map .int), nD (2 ^ n), DD] = .ok w := fun w hw => by
      unfold m_law_two
      rw [fn3]
      show done (seq (Py.ite (tst (bin oeq (bin oidx (var 2) (cst (.int 0))) (cst (.int 0)))) (seq (asg (gnm 3) (bin oadd (cst (.int 2)) (bin omod (bin oidx (var 2) (cst (.int 1))) (cst (.int 5))))) (seq (asg (gnm 4) _) (seq (asg (gnm 5) (call m_law_rings (argC (var 3) (argC (var 4) (argC (var 1) argN))))) _))) skip) _ [some (.lst (ns.map .int)), some (nD (2 ^ n)), some DD, none, none, none, none, none, none, none, none, none, none]) = _
      have hb : (seq (asg (gnm 3) (bin oadd (cst (.int 2)) (bin omod (bin oidx (var 2) (cst (.int 1))) (cst (.int 5))))) (seq (asg (gnm 4) (bin oidx (lstE (argC (bin oadd (var 3) (cst (.int 1))) (argC (bin oadd (bin omul (cst (.int 2)) (var 3)) (cst (.int 1))) argN))) (bin omod (bin oidx (var 2) (cst (.int 2))) (cst (.int 2))))) (seq (asg (gnm 5) (call m_law_rings (argC (var 3) (argC (var 4) (argC (var 1) argN))))) (seq (Py.ite (tst (bin oeq (bin omod (bin oidx (var 2) (cst (.int 3))) (cst (.int 2))) (cst (.int 1)))) (ret (lstE (argC (bin oidx (var 5) (cst (.int 1))) (argC (bin oidx (var 5) (cst (.int 0))) argN)))) skip) (ret (var 5)))))) [some (.lst (ns.map .int)), some (nD (2 ^ n)), some DD, none, none, none, none, none, none, none, none, none, none] = .ok (.ret w) := by
        refine (asg_pass (d := nD (2 + k)) ?_).trans ((asg_pass (d := nD Q) ?_).trans ((asg_pass (d := .lst [pairL (t, u), pairL (t', u')]) ?_).trans hw))
        · generalize nD (2 + k) = Z at *
          generalize nD k = K at *
          simp [var, y1, e1, e2]
        · generalize nD (2 * (2 + k) + 1) = Z1 at *
          generalize nD (2 * (2 + k)) = Z2 at *
          generalize nD (2 + k + 1) = Z3 at *
          generalize nD (2 + k) = Z at *
          generalize nD Q = QQ at *
          simp [var, y2, e3, e4, e5, m2, eQ]
        · generalize nD (2 + k) = Z at *
          generalize nD Q = QQ at *
          generalize nD (2 ^ n) = P at *
          generalize pairL (t, u) = P1 at *
          generalize pairL (t', u') = P2 at *
          simp [var, er]
      rw [seq_eq, ite_eq, cc, bind_ok, if_pos rfl]
      exact congrArg done (congrArg (fun x => x >>= _) hb)
    by_cases q : d3 % 2 = 1
    · refine ⟨Q, 2 + k, (t', u'), (t, u), ⟨g3, g4, by omega, by omega⟩, ⟨g1, g2, by omega, by omega⟩, pre _ ?_⟩
      generalize pairL (t, u) = P1 at *
      generalize pairL (t', u') = P2 at *
      simp [var, y3, m3, q, i0, i1]
    · refine ⟨2 + k, Q, (t, u), (t', u'), ⟨g1, g2, by omega, by omega⟩, ⟨g3, g4, by omega, by omega⟩, pre _ ?_⟩
      generalize pairL (t, u) = P1 at *
      generalize pairL (t', u') = P2 at *
      simp [var, y3, m3, q]
  have skip0 : ∀ r : SM, ∀ b : SM, seq (Py.ite (tst (bin oeq (bin oidx (var 2) (cst (.int 0))) (cst (.int 0)))) b skip) r [some (.lst (ns.map .int)), some (nD (2 ^ n)), some DD, none, none, none, none, none, none, none, none, none, none] = r [some (.lst (ns.map .int)), some (nD (2 ^ n)), some DD, none, none, none, none, none, none, none, none, none, none] := fun r b => chk_pass (by
    generalize nD (2 ^ n) = P at *
    generalize ns.map D.int = NS at *
    simp [var, y0, c0])
  by_cases c1 : d0 = 1
  · obtain ⟨q, hq, e1⟩ := mod_nD d1 (n := 4) (by decide)
    change omod (.int d1) (.int 4) = _ at e1
    have e2 : oadd (.int 1) (nD q) = .ok (nD (1 + q)) := nadd 1 q
    obtain ⟨r, hr, f1⟩ := mod_nD d2 (n := 4) (by decide)
    change omod (.int d2) (.int 4) = _ at f1
    have f2 : oadd (.int 1) (nD r) = .ok (nD (1 + r)) := nadd 1 r
    obtain ⟨k1, t, t1, hk1, t2⟩ := table_at ns 1 (S := 1 + q) (B := 1 + q) h1 h3 (by omega) (by omega) (by omega)
    obtain ⟨k2, u, u1, hk2, u2⟩ := table_at ns 2 (S := 1 + q) (B := 2) h1 h3 (by omega) (by omega) (by omega)
    obtain ⟨k3, t', t1', hk3, t2'⟩ := table_at ns 3 (S := 1 + r) (B := 1 + r) h1 h3 (by omega) (by omega) (by omega)
    obtain ⟨k4, u', u1', hk4, u2'⟩ := table_at ns 4 (S := 1 + r) (B := 2) h1 h3 (by omega) (by omega) (by omega)
    change m_law_table [_, _, _, .int 2] = _ at u2
    change m_law_table [_, _, _, .int 2] = _ at u2'
    have hk1' : m_law_cell [.lst (ns.map .int), .int 1] = .ok (.int k1) := hk1
    have hk2' : m_law_cell [.lst (ns.map .int), .int 2] = .ok (.int k2) := hk2
    have hk3' : m_law_cell [.lst (ns.map .int), .int 3] = .ok (.int k3) := hk3
    have hk4' : m_law_cell [.lst (ns.map .int), .int 4] = .ok (.int k4) := hk4
    refine ⟨1 + q, 1 + r, (t, u), (t', u'), ⟨t1, u1, by omega, by omega⟩, ⟨t1', u1', by omega, by omega⟩, ?_⟩
    unfold m_law_two
    rw [fn3]
    unfold b__law_two
    show done (seq _ _ [some (.lst (ns.map .int)), some (nD (2 ^ n)), some DD, none, none, none, none, none, none, none, none, none, none]) = _
    rw [skip0]
    unfold pairL
    clear skip0
    generalize D.lst (t.map rD) = T at *
    generalize D.lst (u.map rD) = U at *
    generalize D.lst (t'.map rD) = T' at *
    generalize D.lst (u'.map rD) = U' at *
    generalize nD (1 + q) = SS at *
    generalize nD (1 + r) = RR at *
    generalize nD q = Q at *
    generalize nD r = R at *
    generalize nD (2 ^ n) = P at *
    generalize ns.map D.int = NS at *
    simp [var, y0, c1, y1, y2, e1, e2, f1, f2, hk1', hk2', hk3', hk4', t2, u2, t2', u2']
  · obtain ⟨S1, S2, p, q, m1, m2, hq⟩ := twE_ok ns h1 h3 d0 d1 d2 d3 y0 y1 y2 y3 none
    refine ⟨S1, S2, p, q, m1, m2, ?_⟩
    unfold m_law_two
    rw [fn3]
    unfold b__law_two
    show done (seq _ _ [some (.lst (ns.map .int)), some (nD (2 ^ n)), some DD, none, none, none, none, none, none, none, none, none, none]) = _
    rw [skip0]
    have cc : tst (bin oeq (bin oidx (var 2) (cst (.int 0))) (cst (.int 1))) [some (.lst (ns.map .int)), some (nD (2 ^ n)), some DD, none, none, none, none, none, none, none, none, none, none] = .ok false := by
      generalize nD (2 ^ n) = P at *
      generalize ns.map D.int = NS at *
      simp [var, y0, c1]
    rw [chk_pass cc]
    show done (twE _) = _
    rw [hq]
    rfl
end Py.U
namespace Py.U
open PySem
def Low (w : Nat) (ns : List Nat) : Prop := ∀ n ∈ ns, n < 2 ^ w
theorem bitN1 (l k : Nat) : oshr (nD l) (nD k) = .ok (nD (l / 2 ^ k)) := by
  unfold nD
  rw [oshr_nat]
  simp
theorem bitN2 (l : Nat) : oand (nD l) (.int 1) = .ok (nD (l % 2)) := by
  unfold nD
  rw [oand1]
  rfl
theorem sum_nD (f : Nat → Nat) (ps : List Nat) : bsum (.lst (ps.map fun a => nD (f a))) = .ok (nD ((ps.map f).sum)) := by
  have h := sum_map (fun a => ((f a : Nat) : Int)) ps
  have e : ∀ l : List Nat, (l.map fun a => ((f a : Nat) : Int)).sum = (((l.map f).sum : Nat) : Int) := fun l => by
    induction l with
    | nil => rfl
    | cons a l ih => simp [ih]
  rw [e] at h
  exact h
theorem number_ok (n : Nat) : m_is_number [nD n] = .ok (.bl true) := by
  have h := isint_ok n
  have h2 : oge (nD n) (.int 0) = .ok (.bl true) := by
    unfold nD
    rw [oge_ii, decide_eq_true (by omega)]
  unfold m_is_number
  rw [fn1]
  unfold b_is_number
  generalize nD n = N at *
  simp [var, h, h2]
theorem word_is {n w : Nat} (h : n < 2 ^ w) : m_is_word [nD n, nD w] = .ok (.bl true) := by
  have hb : Builtin.Int.intBits (n : Int) ≤ w := PySem.intBits_le_iff.mpr (by simpa using h)
  have h1 : bbits (nD n) = .ok (.int ((Builtin.Int.intBits (n : Int) : Nat) : Int)) := rfl
  have h2 : ole (.int ((Builtin.Int.intBits (n : Int) : Nat) : Int)) (nD w) = .ok (.bl true) := by
    unfold nD
    rw [ole_ii, decide_eq_true (by omega)]
  have h3 := number_ok n
  unfold m_is_word
  rw [fn2]
  unfold b_is_word
  generalize ((Builtin.Int.intBits (n : Int) : Nat) : Int) = q at *
  generalize nD n = N at *
  generalize nD w = M at *
  simp [var, h1, h2, h3]
def SeqN (W : D) (ns : List Nat) : Prop := W = .lst (ns.map nD) ∨ W = .tup (ns.map nD)
theorem SeqN.tuple {W : D} {ns : List Nat} (h : SeqN W ns) : m_as_tuple [W] = .ok (.tup (ns.map nD)) := by
  unfold m_as_tuple
  rw [fn1]
  unfold b_as_tuple
  rcases h with rfl | rfl
  · have q : oisi CS [.lst, .tup] (.lst (ns.map nD)) = .ok (.bl true) := rfl
    simp [var, q]
  · have q : oisi CS [.lst, .tup] (.tup (ns.map nD)) = .ok (.bl true) := rfl
    simp [var, q]
theorem words_ok {W : D} {ns : List Nat} {w : Nat} (h : SeqN W ns) (hL : Low w ns) (hz : ns.length ≤ 1000) : m_are_words [W, nD w, nD ns.length, nD ns.length] = .ok (.bl true) := by
  have ht := h.tuple
  have hl : ∀ a b c o, lcE (iseq (var 4)) [5] (gnm 5) yes (call m_is_word (argC (var 5) (argC (var 1) argN))) [a, some (nD w), b, c, some (.tup (ns.map nD)), o] = .ok (.lst (ns.map fun _ => .bl true)) := fun a b c o => by
    refine lc_mapI (k := nD) (by simp [var]) (le_sz hz) fun n hn => ?_
    have q := word_is (hL n hn)
    generalize nD n = N at *
    generalize nD w = M at *
    exact ⟨_, rfl, by simp only [wipe]; simp [var, q]⟩
  have hb : ball (.lst (ns.map fun _ => .bl true)) = .ok (.bl true) := by
    have := ball_bools (ns.map fun _ => true)
    rw [List.map_map] at this
    refine this.trans ?_
    rw [show (ns.map fun _ => true).all id = true by simp]
  have hN : oisN (.tup (ns.map nD)) = .ok (.bl false) := rfl
  have h1 : blen (.tup (ns.map nD)) = .ok (nD ns.length) := by
    rw [blen_t, List.length_map]
    rfl
  have h2 : ole (nD ns.length) (nD ns.length) = .ok (.bl true) := by
    unfold nD
    rw [ole_ii, decide_eq_true (by omega)]
  unfold m_are_words
  rw [fn4]
  unfold b_are_words
  generalize D.lst (ns.map fun _ => .bl true) = Z at *
  generalize hT : D.tup (ns.map nD) = T at *
  generalize nD ns.length = M at *
  generalize nD w = N at *
  simp [var, ht, hN, h1, h2, hl, hb]
theorem SeqN.len {W : D} {ns : List Nat} (h : SeqN W ns) : blen W = .ok (nD ns.length) := by
  rcases h with rfl | rfl
  · exact lenN ns nD
  · exact lenT ns nD
theorem SeqN.at {W : D} {ns : List Nat} (h : SeqN W ns) {k : Nat} (hk : k < ns.length) : oidx W (nD k) = .ok (nD (at1 ns k)) := by
  rcases h with rfl | rfl
  · exact idx_nL hk
  · exact idx_nT hk
theorem letters_of_ok {w : Nat} (hw : w ≤ 1000) {cs : List Nat} {W : D} (hW : SeqN W cs) (hz : cs.length ≤ 1000) : m_letters_of [nD w, W] = .ok (.tup ((List.range w).map fun p => nD (ltP cs p))) := by
  have hl := hW.len
  obtain ⟨e', h1, o3, rfl⟩ := forR_inv (b := forB (gnm 3) (app 2 (un bsum (lcE (irng1 (un blen (var 1))) [4] (gnm 4) yes (bin oshl (bin oand (bin oshr (bin oidx (var 1) (var 4)) (var 3)) (cst (.int 1))) (var 4)))))) (n := w) (e := [some (nD w), some W, some (.lst []), none, none])
    (fun k e => ∃ o3, e = [some (nD w), some W, some (.lst ((List.range k).map fun p => nD (ltP cs p))), o3, none]) ⟨none, rfl⟩ (by
      rintro p e hp ⟨o3, rfl⟩
      have hr : ∀ a b c d, irng1 (un blen (var 1)) [a, some W, b, c, d] = .ok ((List.range cs.length).map fun i => .int ((i : Nat) : Int)) := fun a b c d => irng1_nat (n := cs.length) (by simp [var, hl]; rfl) (rng_lt hz)
      have hc : ∀ a b d, lcE (irng1 (un blen (var 1))) [4] (gnm 4) yes (bin oshl (bin oand (bin oshr (bin oidx (var 1) (var 4)) (var 3)) (cst (.int 1))) (var 4)) [a, some W, b, some (nD p), d] = .ok (.lst ((List.range cs.length).map fun i => nD (bt (at1 cs i) p * 2 ^ i))) := fun a b d => by
        refine lc_mapI (k := fun i => .int ((i : Nat) : Int)) (hr _ _ _ _) (by rw [List.length_range]; exact le_sz hz) fun i hi => ?_
        have hi2 : i < cs.length := by simpa using hi
        have b1 := hW.at hi2
        have b2 := bitN1 (at1 cs i) p
        have b3 := bitN2 (at1 cs i / 2 ^ p)
        have b4 := shl_bit (bt01 (at1 cs i) p) (p := i) (by omega)
        change oshl (nD (at1 cs i / 2 ^ p % 2)) _ = _ at b4
        show ∃ e1, _ ∧ _ = Res.ok (nD (bt (at1 cs i) p * 2 ^ i))
        generalize nD (bt (at1 cs i) p * 2 ^ i) = t1 at *
        generalize nD (at1 cs i / 2 ^ p % 2) = t2 at *
        generalize nD (at1 cs i / 2 ^ p) = t3 at *
        generalize nD (at1 cs i) = t4 at *
        change oidx W (.int (i : Int)) = _ at b1
        change oshl _ (.int (i : Int)) = _ at b4
        generalize (i : Int) = z at *
        generalize nD p = t5 at *
        exact ⟨_, rfl, by simp only [wipe]; simp [var, b1, b2, b3, b4]⟩
      have hs : bsum (.lst ((List.range cs.length).map fun i => nD (bt (at1 cs i) p * 2 ^ i))) = .ok (nD (ltP cs p)) := by
        have := sum_nD (fun i => bt (at1 cs i) p * 2 ^ i) (List.range cs.length)
        rw [nb_sum (fun i => bt (at1 cs i) p)] at this
        exact this
      have z : ((List.range p).map fun p => nD (ltP cs p)).length < SZ := by
        rw [List.length_map, List.length_range]
        exact Nat.lt_trans (show p < 1001 by omega) (by decide)
      rw [forB_eq, gnm_eq, lift_some, bind_ok]
      rw [List.range_succ, List.map_append, List.map_singleton]
      change ∃ e', app 2 _ [some (nD w), some W, some (.lst ((List.range p).map fun p => nD (ltP cs p))), some (nD p), none] = _ ∧ _
      refine ⟨_, ?_, some (nD p), rfl⟩
      generalize ((List.range cs.length).map fun i => nD (bt (at1 cs i) p * 2 ^ i)) = LL at *
      generalize ((List.range p).map fun p => nD (ltP cs p)) = PP at *
      generalize nD (ltP cs p) = t at *
      generalize nD p = q at *
      generalize nD w = ww at *
      simp [var, hc, hs, z])
  have hr : ∀ a b c d : Option D, irng1 (var 0) [some (nD w), a, b, c, d] = .ok ((List.range w).map fun i => .int ((i : Nat) : Int)) := fun a b c d => irng1_nat (by simp [var, nD]) (rng_lt hw)
  unfold m_letters_of
  rw [fn2]
  unfold b_letters_of
  generalize ((List.range w).map fun p => nD (ltP cs p)) = PP at *
  generalize nD w = ww at *
  simp [var, hr, h1]
theorem read_ok {n : Nat} {ls : List Nat} (hz : n ≤ 1000) (hw : ls.length ≤ 1000) (hl : ∀ l ∈ ls, l < 2 ^ n) : m_is_reading [.tup (ls.map nD), nD n] = .ok (.bl true) := by
  have h3 := shl_nD (n := n) hz
  have h1 : oisi CS [.tup] (.tup (ls.map nD)) = .ok (.bl true) := rfl
  have hc : lcE (iseq (var 0)) [2] (gnm 2) yes (call m_is_below (argC (var 2) (argC (bin oshl (cst (.int 1)) (var 1)) argN))) [some (.tup (ls.map nD)), some (nD n), none] = .ok (.lst (ls.map fun _ => .bl true)) := by
    refine lc_mapI (k := nD) (by simp [var]) (le_sz hw) fun p hp => ?_
    have q := is_below_ok p (2 ^ n)
    rw [decide_eq_true (hl p hp)] at q
    generalize nD (2 ^ n) = P at *
    generalize nD p = N at *
    generalize nD n = M at *
    exact ⟨_, rfl, by simp only [wipe]; simp [var, q, h3]⟩
  have hb : ball (.lst (ls.map fun _ => D.bl true)) = .ok (.bl true) := by
    have := ball_bools (ls.map fun _ => true)
    rw [List.map_map] at this
    refine this.trans ?_
    rw [show (ls.map fun _ => true).all id = true by simp]
  unfold m_is_reading
  rw [fn2]
  unfold b_is_reading
  generalize D.lst (ls.map fun _ => D.bl true) = Z at *
  generalize hT : D.tup (ls.map nD) = T at *
  generalize nD n = M at *
  simp [var, h1, hc, hb]
def bwB : SM := (seq (app 3 (bin oidx (bin oidx (un (oattr ["Machine"] "outs") (var 0)) (var 2)) (var 4)))
  (asg (gnm 2) (bin oidx (bin oidx (un (oattr ["Machine"] "nexts") (var 0)) (var 2)) (var 4))))
theorem bw_loop {n S L B : Nat} {nx os : List (List Nat)} (h : Tbl S L S nx) (h2 : Tbl S L B os) {T : D} : ∀ (ls dn : List Nat) (s : Nat) (o4 : Option D), s < S → (∀ l ∈ ls, l < L) → dn.length + ls.length ≤ 1000 →
    ∃ s' o4', forL (forB (gnm 4) bwB) (ls.map nD) [some (macD n nx os), some T, some (nD s), some (.lst (dn.map nD)), o4] = .ok (.next [some (macD n nx os), some T, some (nD s'), some (.lst ((dn ++ wr nx os s ls).map nD)), o4'])
  | [], dn, s, o4, _, _, _ => ⟨s, o4, by rw [wr, List.append_nil]; rfl⟩
  | l :: ls, dn, s, o4, hs, hl, hz => by
    have hl0 := hl l List.mem_cons_self
    have r1 := (h.at hs).2
    have r2 := (h2.at hs).2
    have i2 := mac_nx n nx os
    have i3 := mac_os n nx os
    have q1 := idx_tT h hs
    have q2 := idx_nT (c := rw1 nx s) (i := l) (by omega)
    have q3 := idx_tT h2 hs
    have q4 := idx_nT (c := rw1 os s) (i := l) (by omega)
    simp only [List.length_cons] at hz
    have z : (dn.map nD).length < SZ := szN (by omega)
    obtain ⟨s', o4', q⟩ := bw_loop (n := n) h h2 (T := T) ls (dn ++ [at1 (rw1 os s) l]) (at1 (rw1 nx s) l) (some (nD l)) (r1.2 _ (at1_mem (by omega))) (fun x hx => hl x (List.mem_cons_of_mem _ hx)) (by simp; omega)
    refine ⟨s', o4', ?_⟩
    have e : forB (gnm 4) bwB (nD l) [some (macD n nx os), some T, some (nD s), some (.lst (dn.map nD)), o4] = .ok (.next [some (macD n nx os), some T, some (nD (at1 (rw1 nx s) l)), some (.lst ((dn ++ [at1 (rw1 os s) l]).map nD)), some (nD l)]) := by
      rw [List.map_append, List.map_singleton]
      generalize nD (at1 (rw1 nx s) l) = t4 at *
      generalize nD (at1 (rw1 os s) l) = t3 at *
      generalize nD l = t5 at *
      generalize nD s = t7 at *
      generalize dn.map nD = OB at *
      generalize macD n nx os = MD at *
      generalize D.tup (nx.map rD) = NX at *
      generalize D.tup (os.map rD) = OS at *
      generalize rD (rw1 nx s) = R1 at *
      generalize rD (rw1 os s) = R2 at *
      simp [bwB, var, i2, i3, q1, q2, q3, q4, z]
    rw [List.map_cons, forL, e]
    rw [List.append_assoc] at q
    exact q
theorem bits_ok {n S B : Nat} {nx os : List (List Nat)} (hn : n ≤ 3) (h : Tbl S (2 ^ n) S nx) (h2 : Tbl S (2 ^ n) B os) (h0 : 0 < S) {ls : List Nat} (hl : ∀ l ∈ ls, l < 2 ^ n) (hz : ls.length ≤ 1000) : m_Machine_bits_written [macD n nx os, .tup (ls.map nD)] = .ok (.tup ((wr nx os 0 ls).map nD)) := by
  have i1 := mac_in n nx os
  have q0 := read_ok (n := n) (by omega) hz hl
  obtain ⟨s', o4, q⟩ := bw_loop (n := n) h h2 (T := .tup (ls.map nD)) ls [] 0 none h0 hl (by simpa using hz)
  rw [List.nil_append] at q
  unfold m_Machine_bits_written
  rw [fn2]
  show done (seq (Py.ite (notT (tst (call m_is_reading (argC (var 1) (argC (un (oattr ["Machine"] "inputs") (var 0)) argN))))) (rais "InvalidReading" ["value"] (argC (var 1) argN)) skip) (seq (asg (gnm 2) (cst (.int 0))) (seq (asg (gnm 3) (lstE argN)) (seq (for_ (iseq (var 1)) (gnm 4) bwB) (ret (un btuple (var 3)))))) [some (macD n nx os), some (.tup (ls.map nD)), none, none, none]) = _
  change forL _ _ [_, _, some (.int 0), some (.lst []), _] = _ at q
  generalize (wr nx os 0 ls).map nD = OB at *
  generalize ls.map nD = LT at *
  generalize macD n nx os = MD at *
  generalize nD s' = t7 at *
  generalize nD n = N at *
  simp [var, i1, q0, q]
theorem callM_mac {n : Nat} {nx os : List (List Nat)} {m : String} {f : List D → Res D} {a : EM} {am : AM} {e : Env} (h : a e = .ok (macD n nx os)) (hm : m ≠ "inputs" ∧ m ≠ "nexts" ∧ m ≠ "outs" := by decide) : callM "Machine" m f a am e = (am e >>= fun ds => f (macD n nx os :: ds)) := by
  unfold callM
  rw [h, bind_ok]
  unfold macD
  dsimp only
  rw [if_pos]
  refine ⟨rfl, ?_⟩
  obtain ⟨h1, h2, h3⟩ := hm
  have e1 : (m == "inputs") = false := by simpa using h1
  have e2 : (m == "nexts") = false := by simpa using h2
  have e3 : (m == "outs") = false := by simpa using h3
  simp [List.lookup, e1, e2, e3]
/-- a machine writes a word -/
theorem mac_write_ok {n S : Nat} {nx os : List (List Nat)} {ls : List Nat} {W : D} (hW : SeqN W (wds n ls)) (h3 : n ≤ 3) (h : Tbl S (2 ^ n) S nx) (h2 : Tbl S (2 ^ n) 2 os) (hS : 0 < S) (hl : ∀ l ∈ ls, l < 2 ^ n) (hw : ls.length ≤ 1000) : m_Machine_write [macD n nx os, nD ls.length, W] = .ok (nD (nbl (wr nx os 0 ls))) := by
  have i1 := mac_in n nx os
  have q1 := number_ok ls.length
  have q2 := words_ok (w := ls.length) hW (wds_low n ls) (by rw [wds_len]; omega)
  rw [wds_len] at q2
  have q3 := letters_of_ok (w := ls.length) hw hW (by rw [wds_len]; omega)
  have e3 : (List.range ls.length).map (fun p => nD (ltP (wds n ls) p)) = ls.map nD := by
    have := congrArg (List.map nD) (lts_wds hl)
    rw [List.map_map] at this
    exact this
  rw [e3] at q3
  have q4 := bits_ok h3 h h2 hS hl hw
  have q5 : callM "Machine" "bits_written" m_Machine_bits_written (var 0) (argC (call m_letters_of (argC (var 1) (argC (var 2) argN))) argN) [some (macD n nx os), some (nD ls.length), some W, none, none, none] = _ := callM_mac (n := n) (nx := nx) (os := os) rfl
  have lw := wr_len nx os ls 0
  have lt := wr_lt h h2 ls 0 hS hl
  have ew : (wr nx os 0 ls).map nD = (List.range ls.length).map fun p => nD (at1 (wr nx os 0 ls) p) := by
    apply List.ext_getElem
    · simp [lw]
    · intro p h1 h2
      have hp : p < (wr nx os 0 ls).length := by simpa using h1
      simp [at1, hp]
  have hc : lcE (ienum (var 3)) [4, 5] (gtup [(gnm 4), (gnm 5)]) yes (bin oshl (var 5) (var 4)) [some (macD n nx os), some (nD ls.length), some W, some (.tup ((wr nx os 0 ls).map nD)), none, none] = .ok (.lst ((List.range ls.length).map fun p => nD (at1 (wr nx os 0 ls) p * 2 ^ p))) := by
    refine lc_mapI (k := fun p => .tup [.int ((p : Nat) : Int), nD (at1 (wr nx os 0 ls) p)]) ?_ (by rw [List.length_range]; exact le_sz hw) fun p hp => ?_
    · have : ienum (var 3) [some (macD n nx os), some (nD ls.length), some W, some (.tup ((wr nx os 0 ls).map nD)), none, none] = .ok (enumL 0 ((wr nx os 0 ls).map nD)) := rfl
      rw [this, ew, enum_rng]
    · have hp2 : p < ls.length := by simpa using hp
      have hb := lt _ (at1_mem (l := p) (by rw [lw]; exact hp2))
      have b4 := shl_bit (b := at1 (wr nx os 0 ls) p) (p := p) (by omega) (by omega)
      change oshl _ (.int (p : Int)) = _ at b4
      generalize nD (at1 (wr nx os 0 ls) p * 2 ^ p) = t1 at *
      generalize nD (at1 (wr nx os 0 ls) p) = t2 at *
      generalize (p : Int) = z at *
      generalize nD ls.length = t3 at *
      generalize macD n nx os = MD at *
      exact ⟨_, rfl, by simp [wipe, var, b4]⟩
  have hs : bsum (.lst ((List.range ls.length).map fun p => nD (at1 (wr nx os 0 ls) p * 2 ^ p))) = .ok (nD (nbl (wr nx os 0 ls))) := by
    have := sum_nD (fun p => at1 (wr nx os 0 ls) p * 2 ^ p) (List.range ls.length)
    rw [nb_sum (at1 (wr nx os 0 ls))] at this
    unfold nbl
    rw [lw]
    exact this
  unfold m_Machine_write
  rw [fn3]
  unfold b_Machine_write
  generalize ((List.range ls.length).map fun p => nD (at1 (wr nx os 0 ls) p * 2 ^ p)) = t1 at *
  generalize (wr nx os 0 ls).map nD = t2 at *
  generalize ls.map nD = t3 at *
  generalize nD (nbl (wr nx os 0 ls)) = t4 at *
  generalize macD n nx os = MD at *
  generalize nD ls.length = t5 at *
  generalize nD n = t6 at *
  simp [var, i1, q1, q2, q3, q4, q5, hc, hs]
end Py.U
namespace Py.U
open PySem
/-! ### the law's own number and words -/
def lnB : SM := (seq (asg (gnm 2) (bin oadd (var 2) (bin oshl (bin oidx (bin oidx (bin oidx (var 0) (cst (.int 1))) (var 3)) (bin oidx (var 1) (var 4))) (var 4))))
  (asg (gnm 3) (bin oidx (bin oidx (bin oidx (var 0) (cst (.int 0))) (var 3)) (bin oidx (var 1) (var 4)))))
theorem law_number_ok {L S : Nat} {nx os : List (List Nat)} {ls : List Nat} {W : D} (hW : SeqN W ls) (h : Tbl S L S nx) (h2 : Tbl S L 2 os) (hS : 0 < S) (hl : ∀ l ∈ ls, l < L) (hw : ls.length ≤ 1000) : m_law_number [pairL (nx, os), W] = .ok (nD (nbl (wr nx os 0 ls))) := by
  have P0 := pair0 (nx, os)
  have P1 := pair1 (nx, os)
  dsimp only at P0 P1
  have hlen := hW.len
  have hst : ∀ k, k ≤ ls.length → stW nx 0 (ls.take k) < S := fun k hk => stW_lt h _ 0 hS fun l hm => hl l (List.mem_of_mem_take hm)
  obtain ⟨e', lp, o4, rfl⟩ := forR_inv (b := forB (gnm 4) lnB) (n := ls.length) (e := [some (pairL (nx, os)), some W, some (nD 0), some (nD 0), none])
    (fun k E => ∃ o4, E = [some (pairL (nx, os)), some W, some (nD (nb (at1 (wr nx os 0 ls)) k)), some (nD (stW nx 0 (ls.take k))), o4]) ⟨none, rfl⟩ (by
      rintro k E hk ⟨o4, rfl⟩
      have s0 := hst k (by omega)
      have l0 := hl _ (at1_mem hk)
      have x1 := idx_tL h s0
      have x2 := idx_tL h2 s0
      have x3 := idx_nT (c := rw1 nx (stW nx 0 (ls.take k))) (i := at1 ls k) (by rw [(h.at s0).2.1]; exact l0)
      have x4 := idx_nT (c := rw1 os (stW nx 0 (ls.take k))) (i := at1 ls k) (by rw [(h2.at s0).2.1]; exact l0)
      have x5 := hW.at hk
      have hb : at1 (rw1 os (stW nx 0 (ls.take k))) (at1 ls k) < 2 := (h2.at s0).2.2 _ (at1_mem (by rw [(h2.at s0).2.1]; exact l0))
      have x6 := shl_bit (b := at1 (rw1 os (stW nx 0 (ls.take k))) (at1 ls k)) (p := k) (by omega) (by omega)
      have x7 := nadd (nb (at1 (wr nx os 0 ls)) k) (at1 (rw1 os (stW nx 0 (ls.take k))) (at1 ls k) * 2 ^ k)
      have e1 : nb (at1 (wr nx os 0 ls)) (k + 1) = nb (at1 (wr nx os 0 ls)) k + at1 (rw1 os (stW nx 0 (ls.take k))) (at1 ls k) * 2 ^ k := by
        rw [← wr_at nx os ls 0 k hk]
        rfl
      have e2 := stW_take nx 0 hk
      refine ⟨_, ?_, some (nD k), rfl⟩
      rw [forB_eq, gnm_eq, lift_some, bind_ok, e1, e2]
      show lnB [some (pairL (nx, os)), some W, some (nD (nb (at1 (wr nx os 0 ls)) k)), some (nD (stW nx 0 (ls.take k))), some (nD k)] = _
      unfold lnB
      generalize nD (nb (at1 (wr nx os 0 ls)) k + at1 (rw1 os (stW nx 0 (ls.take k))) (at1 ls k) * 2 ^ k) = t1 at *
      generalize nD (at1 (rw1 os (stW nx 0 (ls.take k))) (at1 ls k) * 2 ^ k) = t2 at *
      generalize nD (at1 (rw1 os (stW nx 0 (ls.take k))) (at1 ls k)) = t3 at *
      generalize nD (at1 (rw1 nx (stW nx 0 (ls.take k))) (at1 ls k)) = t4 at *
      generalize rD (rw1 os (stW nx 0 (ls.take k))) = t5 at *
      generalize rD (rw1 nx (stW nx 0 (ls.take k))) = t6 at *
      generalize nD (nb (at1 (wr nx os 0 ls)) k) = t7 at *
      generalize nD (stW nx 0 (ls.take k)) = t8 at *
      generalize nD (at1 ls k) = t9 at *
      generalize nD k = t10 at *
      generalize pairL (nx, os) = PL at *
      generalize D.lst (nx.map rD) = T1 at *
      generalize D.lst (os.map rD) = T2 at *
      simp [var, P0, P1, x1, x2, x3, x4, x5, x6, x7])
  have hr : irng1 (un blen (var 1)) [some (pairL (nx, os)), some W, some (nD 0), some (nD 0), none] = .ok ((List.range ls.length).map fun i => .int ((i : Nat) : Int)) := irng1_nat (n := ls.length) hlen (rng_lt hw)
  unfold m_law_number
  rw [fn2]
  show done (seq (asg (gnm 2) (cst (nD 0))) (seq (asg (gnm 3) (cst (nD 0))) (seq (for_ (irng1 (un blen (var 1))) (gnm 4) lnB) (ret (var 2)))) [some (pairL (nx, os)), some W, none, none, none]) = _
  refine (congrArg done ((asg_pass (d := nD 0) rfl).trans ((asg_pass (d := nD 0) rfl).trans ((for_pass hr lp).trans ?_)))).trans (done_ret (nD (nbl (wr nx os 0 ls))))
  unfold nbl
  rw [wr_len]
  rfl
def lwI : SM := (asg (gnm 5) (bin oadd (var 5) (bin oshl (bin oand (bin oshr (bin oidx (var 2) (var 6)) (var 4)) (cst (.int 1))) (var 6))))
def lwB : SM := (seq (asg (gnm 5) (cst (.int 0)))
  (seq (for_ (irng1 (un blen (var 2))) (gnm 6) lwI)
  (app 3 (var 5))))
theorem lw_inner {ls : List Nat} {W : D} (hW : SeqN W ls) (hw : ls.length ≤ 1000) (k : Nat) {A B C : D} (o6 o7 : Option D) : ∃ o6', forL (forB (gnm 6) lwI) ((List.range ls.length).map fun i => .int ((i : Nat) : Int)) [some A, some B, some W, some C, some (nD k), some (nD 0), o6, o7] = .ok (.next [some A, some B, some W, some C, some (nD k), some (nD (wdK ls k)), o6', o7]) := by
  obtain ⟨e', lp, o6', rfl⟩ := forR_inv (b := forB (gnm 6) lwI) (n := ls.length) (e := [some A, some B, some W, some C, some (nD k), some (nD 0), o6, o7])
    (fun q E => ∃ o6, E = [some A, some B, some W, some C, some (nD k), some (nD (nb (fun p => bt (at1 ls p) k) q)), o6, o7]) ⟨o6, rfl⟩ (by
      rintro q E hq ⟨o6, rfl⟩
      have x1 := hW.at hq
      have h2 := bitN1 (at1 ls q) k
      have h3 := bitN2 (at1 ls q / 2 ^ k)
      have h4 := shl_bit (bt01 (at1 ls q) k) (p := q) (by omega)
      have h5 := nadd (nb (fun p => bt (at1 ls p) k) q) (bt (at1 ls q) k * 2 ^ q)
      change oshl (nD (at1 ls q / 2 ^ k % 2)) _ = _ at h4
      refine ⟨[some A, some B, some W, some C, some (nD k), some (nD (nb (fun p => bt (at1 ls p) k) q + bt (at1 ls q) k * 2 ^ q)), some (nD q), o7], ?_, some (nD q), rfl⟩
      rw [forB_eq, gnm_eq, lift_some, bind_ok]
      show lwI [some A, some B, some W, some C, some (nD k), some (nD (nb (fun p => bt (at1 ls p) k) q)), some (nD q), o7] = _
      unfold lwI
      generalize nD (nb (fun p => bt (at1 ls p) k) q + bt (at1 ls q) k * 2 ^ q) = t1 at *
      generalize nD (bt (at1 ls q) k * 2 ^ q) = t2 at *
      generalize nD (at1 ls q / 2 ^ k % 2) = t3 at *
      generalize nD (at1 ls q / 2 ^ k) = t4 at *
      generalize nD (at1 ls q) = t5 at *
      generalize nD (nb (fun p => bt (at1 ls p) k) q) = t6 at *
      generalize nD q = t7 at *
      generalize nD k = t8 at *
      simp [var, x1, h2, h3, h4, h5])
  exact ⟨o6', lp⟩
theorem written_ok {n S : Nat} {nx os : List (List Nat)} {ls : List Nat} {W : D} (hW : SeqN W ls) (h3 : n ≤ 3) (h : Tbl S (2 ^ n) S nx) (h2 : Tbl S (2 ^ n) 2 os) (hS : 0 < S) (hl : ∀ l ∈ ls, l < 2 ^ n) (hw : ls.length ≤ 1000) : m_law_written [macD n nx os, pairL (nx, os), W] = .ok (.bl true) := by
  have hlen := hW.len
  obtain ⟨e', lp, o4, o5, o6, rfl⟩ := forR_inv (b := forB (gnm 4) lwB) (n := n) (e := [some (macD n nx os), some (pairL (nx, os)), some W, some (.lst []), none, none, none, none])
    (fun q E => ∃ o4 o5 o6, E = [some (macD n nx os), some (pairL (nx, os)), some W, some (.lst ((wds q ls).map nD)), o4, o5, o6, none]) ⟨none, none, none, rfl⟩ (by
      rintro q E hq ⟨o4, o5, o6, rfl⟩
      obtain ⟨o6', il⟩ := lw_inner hW hw q (A := macD n nx os) (B := pairL (nx, os)) (C := .lst ((wds q ls).map nD)) o6 none
      have hr : irng1 (un blen (var 2)) [some (macD n nx os), some (pairL (nx, os)), some W, some (.lst ((wds q ls).map nD)), some (nD q), some (nD 0), o6, none] = .ok ((List.range ls.length).map fun i => .int ((i : Nat) : Int)) := irng1_nat (n := ls.length) hlen (rng_lt hw)
      have z : ((wds q ls).map nD).length < SZ := szN (by rw [wds_len]; omega)
      have es : (wds (q + 1) ls).map nD = (wds q ls).map nD ++ [nD (wdK ls q)] := by
        unfold wds
        rw [List.range_succ, List.map_append, List.map_append]
        rfl
      refine ⟨_, ?_, some (nD q), some (nD (wdK ls q)), o6', rfl⟩
      rw [forB_eq, gnm_eq, lift_some, bind_ok, es]
      show lwB [some (macD n nx os), some (pairL (nx, os)), some W, some (.lst ((wds q ls).map nD)), some (nD q), o5, o6, none] = _
      unfold lwB
      refine (asg_pass (d := nD 0) rfl).trans ((for_pass hr il).trans ?_)
      generalize (wds q ls).map nD = WS at *
      generalize nD (wdK ls q) = t1 at *
      generalize macD n nx os = M at *
      generalize pairL (nx, os) = PL at *
      generalize nD q = t2 at *
      simp [var, z])
  have hr : irng1 (un (oattr ["Machine"] "inputs") (var 0)) [some (macD n nx os), some (pairL (nx, os)), some W, some (.lst []), none, none, none, none] = .ok ((List.range n).map fun i => .int ((i : Nat) : Int)) := irng1_nat (n := n) (mac_in n nx os) (rng_lt (by omega))
  have mw := mac_write_ok (W := .lst ((wds n ls).map nD)) (.inl rfl) h3 h h2 hS hl hw
  have q5 : callM "Machine" "write" m_Machine_write (var 0) (argC (un blen (var 2)) (argC (var 3) argN)) [some (macD n nx os), some (pairL (nx, os)), some W, some (.lst ((wds n ls).map nD)), o4, o5, o6, none] = _ := callM_mac (n := n) (nx := nx) (os := os) rfl
  have ln := law_number_ok hW h h2 hS hl hw
  have t1 : oisi CS [.int] (nD (nbl (wr nx os 0 ls))) = .ok (.bl true) := rfl
  have t2 : oisi CS [.bl] (nD (nbl (wr nx os 0 ls))) = .ok (.bl false) := rfl
  have t3 := nat_eq (nbl (wr nx os 0 ls)) (nbl (wr nx os 0 ls))
  rw [decide_eq_true rfl] at t3
  unfold m_law_written
  rw [fn3]
  show done (seq _ (seq (for_ _ (gnm 4) lwB) _) [some (macD n nx os), some (pairL (nx, os)), some W, none, none, none, none, none]) = _
  refine (congrArg done ((asg_pass (d := .lst []) (by simp)).trans ((for_pass hr lp).trans ?_))).trans (done_ret (.bl true))
  generalize nD (nbl (wr nx os 0 ls)) = N at *
  generalize D.lst ((wds n ls).map nD) = WS at *
  generalize macD n nx os = M at *
  generalize pairL (nx, os) = PL at *
  generalize nD ls.length = LL at *
  have q6 : asg (gnm 7) (callM "Machine" "write" m_Machine_write (var 0) (argC (un blen (var 2)) (argC (var 3) argN))) [some M, some PL, some W, some WS, o4, o5, o6, none] = .ok (.next [some M, some PL, some W, some WS, o4, o5, o6, some N]) := by
    rw [asg_eq, q5]
    simp [var, hlen, mw]
  refine (seq_next q6).trans ?_
  simp [var, ln, t1, t2, t3]
end Py.U
namespace Py.U
open PySem
theorem drawn6 {ds : List Int} {a b c d e f : Int} (H : Drawn ds [a, b, c, d, e, f]) : ∃ x0 x1 x2 x3 x4 x5, ds = [x0, x1, x2, x3, x4, x5] ∧ (0 ≤ x0 ∧ x0 < a) ∧ (0 ≤ x5 ∧ x5 < f) := by
  match ds, H with
  | [x0, x1, x2, x3, x4, x5], ⟨h0, _, _, _, _, h5, _⟩ => exact ⟨x0, x1, x2, x3, x4, x5, rfl, h0, h5⟩
theorem slc_low (r : List Nat) : oslc (rD r) none (some (-1)) = .ok (rD r.dropLast) := by
  show Res.ok (D.tup (cut (r.map nD) none (some (-1)))) = _
  unfold cut rD
  rw [List.map_dropLast]
  have e0 : ∀ n : Nat, HT.sIx n 0 none = 0 := fun _ => rfl
  have e1 : ∀ n : Nat, HT.sIx n n (some (-1)) = n - 1 := fun n => by
    unfold HT.sIx
    simp
    omega
  rw [e0, e1, Nat.sub_zero, List.drop_zero, List.dropLast_eq_take]
/-- what holds of the two least machines -/
theorem eqs_ok {n S1 S2 : Nat} {nx1 os1 nx2 os2 : List (List Nat)} (t1 : Tbl S1 (2 ^ n) S1 nx1) (t2 : Tbl S2 (2 ^ n) S2 nx2) (u1 : Tbl S1 (2 ^ n) 2 os1) (u2 : Tbl S2 (2 ^ n) 2 os2) (p1 : 0 < S1) (p2 : 0 < S2) :
    (seaP (S1 * S2) (2 ^ n) nx1 os1 nx2 os2 (0, 0) = none → lsN nx1 os1 = lsN nx2 os2 ∧ lsO nx1 os1 = lsO nx2 os2) ∧ (∀ nd, seaP (S1 * S2) (2 ^ n) nx1 os1 nx2 os2 (0, 0) = some nd → ¬ (lsN nx1 os1 = lsN nx2 os2 ∧ lsO nx1 os1 = lsO nx2 os2)) := by
  refine ⟨fun h => ?_, fun nd h ⟨e1, e2⟩ => ?_⟩
  · have ww := sea_none t1 t2 (b := (0, 0)) ⟨p1, p2⟩ (Nat.le_refl _) h
    exact ls_same t1 t2 u1 u2 p1 p2 ww
  · have ww := ls_ww t1 t2 u1 u2 p1 p2 e1 e2
    obtain ⟨r1, r2, _⟩ := sea_read t1 t2 u1 u2 (b := (0, 0)) ⟨p1, p2⟩ h
    exact r2 (ww _ r1)
theorem eq_NN (a b : Nat) : oeq (nD a) (nD b) = .ok (.bl (decide (a = b))) := nat_eq a b
theorem holds_ok (ns : List Int) : m_law_holds [.lst (ns.map .int)] = .ok (.bl true) := by
  obtain ⟨c0, hc0⟩ := cell_ok ns 0
  obtain ⟨c6, hc6⟩ := cell_ok ns 6
  obtain ⟨ds, hdr, hd⟩ := draws_ok c0 [3, 6, 60, 120, 120, 41] (by simp) (by simp)
  obtain ⟨d0, d1, d2, d3, d4, d5, rfl, b0, b5⟩ := drawn6 hdr
  obtain ⟨n, hn, hn1, hn3⟩ : ∃ n : Nat, 1 + d0 = (n : Int) ∧ 1 ≤ n ∧ n ≤ 3 := ⟨(1 + d0).toNat, by omega, by omega, by omega⟩
  obtain ⟨k, rfl⟩ : ∃ k : Nat, d5 = (k : Int) := ⟨d5.toNat, by omega⟩
  have hk : k < 41 := by omega
  obtain ⟨S1, S2, ⟨nx1, os1⟩, ⟨nx2, os2⟩, M1, M2, htwo⟩ := two_ok ns hn1 hn3 d1 d2 d3 d4 (k : Int)
  have p8 := pow3 hn1 hn3
  have pp : 0 < 2 ^ n := Nat.two_pow_pos n
  obtain ⟨t1, u1, p1, z1⟩ := M1
  obtain ⟨t2, u2, p2, z2⟩ := M2
  simp only at t1 u1 t2 u2
  have a0 : oadd (.int 1) (.int d0) = .ok (nD n) := by rw [oadd_ii, hn]; rfl
  have sh := shl_nD (n := n) (by omega)
  have e1 := mach_made hn1 hn3 t1 u1 p1 (by omega)
  have e2 := mach_made hn1 hn3 t2 u2 p2 (by omega)
  have P10 := pair0 (nx1, os1)
  have P11 := pair1 (nx1, os1)
  have P20 := pair0 (nx2, os2)
  have P21 := pair1 (nx2, os2)
  dsimp only at P10 P11 P20 P21
  have l1 := least_law t1 u1 p1 (by omega) (by omega)
  have l2 := least_law t2 u2 p2 (by omega) (by omega)
  change m_law_least [_] = .ok (pairL (lsN nx1 os1, lsO nx1 os1)) at l1
  change m_law_least [_] = .ok (pairL (lsN nx2 os2, lsO nx2 os2)) at l2
  have m1 := least_ok hn1 hn3 t1 u1 p1 (by omega)
  have m2 := least_ok hn1 hn3 t2 u2 p2 (by omega)
  have f1 := (fndM_ok t1 u1.len p1).2.2.1
  have f2 := (fndM_ok t2 u2.len p2).2.2.1
  have v1 := lsN_tbl t1 u1.len p1
  have v2 := lsN_tbl t2 u2.len p2
  have w1 := lsO_tbl t1 u1 p1
  have w2 := lsO_tbl t2 u2 p2
  have i1 := is_ok (n := n) v1 w1 (by omega) (by omega)
  have i2 := is_ok (n := n) v2 w2 (by omega) (by omega)
  have lf := law_first_ok t1 t2 u1 u2 p1 p2 (by omega) (by omega) p8
  have hm : S1 * S2 ≤ 900000 := Nat.le_trans (Nat.mul_le_mul z1 z2) (by decide)
  have fu := unlike_ok hn3 t1 t2 u1 u2 p1 p2 hm
  have em := eq_mac (n := n) (nx := lsN nx1 os1) (os := lsO nx1 os1) (nx' := lsN nx2 os2) (os' := lsO nx2 os2)
  obtain ⟨g1, g2⟩ := eqs_ok t1 t2 u1 u2 p1 p2
  have hc0' : m_law_cell [.lst (ns.map .int), .int 0] = .ok (.int c0) := hc0
  have hc6' : m_law_cell [.lst (ns.map .int), .int 6] = .ok (.int c6) := hc6
  change m_law_draws [_, .lst [.int 3, .int 6, .int 60, .int 120, .int 120, .int 41]] = .ok (.lst [.int d0, .int d1, .int d2, .int d3, .int d4, .int (k : Int)]) at hd
  have sl : oslc (.lst [.int d0, .int d1, .int d2, .int d3, .int d4, .int (k : Int)]) (some 1) none = .ok (.lst [.int d1, .int d2, .int d3, .int d4, .int (k : Int)]) := rfl
  have y0 : oidx (.lst [.int d0, .int d1, .int d2, .int d3, .int d4, .int (k : Int)]) (.int 0) = .ok (.int d0) := rfl
  have y5 : oidx (.lst [.int d0, .int d1, .int d2, .int d3, .int d4, .int (k : Int)]) (.int 5) = .ok (.int (k : Int)) := rfl
  have j0 : ∀ a b : D, oidx (.lst [a, b]) (.int 0) = .ok a := fun _ _ => rfl
  have j1 : ∀ a b : D, oidx (.lst [a, b]) (.int 1) = .ok b := fun _ _ => rfl
  have o0 := pair0 (lsN nx1 os1, lsO nx1 os1)
  have o1 := pair0 (lsN nx2 os2, lsO nx2 os2)
  dsimp only at o0 o1
  have nl1 : blen (.lst ((lsN nx1 os1).map rD)) = .ok (nD (fndM nx1 os1).length) := by rw [lenN, v1.len]
  have nl2 : blen (.lst ((lsN nx2 os2).map rD)) = .ok (nD (fndM nx2 os2).length) := by rw [lenN, v2.len]
  obtain ⟨ls, hls, hls2, hls3⟩ := low_draws c6 (w := 2 ^ n) (k := k) ⟨pp, by omega⟩ (by omega)
  have rp := rep_one ((2 ^ n : Nat) : Int) k (by omega)
  have stay : ∀ b : Bool, ∀ A : D, (∀ l : SM, l = l) → True := fun _ _ _ => trivial
  -- the statements ahead of the question
  have pre : ∀ (A : D) (b : Bool), ansD (2 ^ n) os1 os2 (seaP (S1 * S2) (2 ^ n) nx1 os1 nx2 os2 (0, 0)) = A → isNon A = b → decide (lsN nx1 os1 = lsN nx2 os2 ∧ lsO nx1 os1 = lsO nx2 os2) = b → ∀ r : Res Fl, 
      (seq (Py.ite (tst (un oisN (var 9))) (seq (asg (gnm 13) (call m_law_draws (argC (call m_law_cell (argC (var 0) (argC (cst (.int 6)) argN))) (argC (bin olrep (lstE (argC (bin oshl (cst (.int 1)) (var 2)) argN)) (bin oidx (var 1) (cst (.int 5)))) argN))))
  (seq (Py.ite (orT (tst (un onotN (var 12))) (tst (bin Py.one (call m_law_number (argC (bin oidx (var 3) (cst (.int 0))) (argC (var 13) argN))) (call m_law_number (argC (bin oidx (var 3) (cst (.int 1))) (argC (var 13) argN)))))) (ret (cst (.bl false))) skip)
  (ret (andE (call m_law_written (argC (var 4) (argC (bin oidx (var 3) (cst (.int 0))) (argC (var 13) argN)))) (call m_law_written (argC (var 5) (argC (bin oidx (var 3) (cst (.int 1))) (argC (var 13) argN)))))))) skip)
  (seq (Py.ite (orT (notT (tst (call m_law_same (argC (var 12) (argC (var 9) argN))))) (tst (bin ogt (un blen (var 12)) (bin osub (bin oadd (un blen (bin oidx (bin oidx (var 6) (cst (.int 0))) (cst (.int 0)))) (un blen (bin oidx (bin oidx (var 6) (cst (.int 1))) (cst (.int 0))))) (cst (.int 1)))))) (ret (cst (.bl false))) skip)
  (seq (asg (gnm 14) (slc (var 9) none (some (un oneg (cst (.int 1))))))
  (seq (Py.ite (orT (tst (bin oeq (call m_law_number (argC (bin oidx (var 3) (cst (.int 0))) (argC (var 9) argN))) (call m_law_number (argC (bin oidx (var 3) (cst (.int 1))) (argC (var 9) argN))))) (tst (bin Py.one (call m_law_number (argC (bin oidx (var 3) (cst (.int 0))) (argC (var 14) argN))) (call m_law_number (argC (bin oidx (var 3) (cst (.int 1))) (argC (var 14) argN)))))) (ret (cst (.bl false))) skip)
  (seq (Py.ite (orT (notT (tst (call m_law_written (argC (var 4) (argC (bin oidx (var 3) (cst (.int 0))) (argC (var 9) argN)))))) (notT (tst (call m_law_written (argC (var 5) (argC (bin oidx (var 3) (cst (.int 1))) (argC (var 9) argN))))))) (ret (cst (.bl false))) skip)
  (ret (andE (call m_law_written (argC (var 4) (argC (bin oidx (var 3) (cst (.int 0))) (argC (var 14) argN)))) (call m_law_written (argC (var 5) (argC (bin oidx (var 3) (cst (.int 1))) (argC (var 14) argN))))))))))) [some (.lst (ns.map .int)), some (.lst [.int d0, .int d1, .int d2, .int d3, .int d4, .int (k : Int)]), some (nD n), some (.lst [pairL (nx1, os1), pairL (nx2, os2)]), some (macD n nx1 os1), some (macD n nx2 os2), some (.lst [pairL (lsN nx1 os1, lsO nx1 os1), pairL (lsN nx2 os2, lsO nx2 os2)]), some (macD n (lsN nx1 os1) (lsO nx1 os1)), some (macD n (lsN nx2 os2) (lsO nx2 os2)), some A, some (.bl b), some (.bl b), some A, none, none] = r → m_law_holds [.lst (ns.map .int)] = done r := fun A b hA hb hq r hr => by
    rw [hA] at lf fu
    rw [hq] at em
    have al := alike_ok fu hb
    have i1b : oisi CS [.bl] (.bl b) = .ok (.bl true) := rfl
    have nb : Py.one (.bl b) (.bl b) = .ok (.bl false) := by cases b <;> rfl
    have nA : oisN A = .ok (.bl b) := by rw [← hb]; rfl
    rw [← hr]
    clear hr hdr rp hls hls2 hls3 hA g1 g2 nl1 nl2 o0 o1 hq
    generalize D.lst [.int d1, .int d2, .int d3, .int d4, .int (k : Int)] = D5 at *
    generalize D.lst [.int d0, .int d1, .int d2, .int d3, .int d4, .int (k : Int)] = DD at *
    generalize pairL (nx1, os1) = PL1 at *
    generalize pairL (nx2, os2) = PL2 at *
    generalize pairL (lsN nx1 os1, lsO nx1 os1) = LL1 at *
    generalize pairL (lsN nx2 os2, lsO nx2 os2) = LL2 at *
    generalize macD n (lsN nx1 os1) (lsO nx1 os1) = LM1 at *
    generalize macD n (lsN nx2 os2) (lsO nx2 os2) = LM2 at *
    generalize macD n nx1 os1 = MM1 at *
    generalize macD n nx2 os2 = MM2 at *
    generalize D.lst (nx1.map rD) = X1 at *
    generalize D.lst (nx2.map rD) = X2 at *
    generalize D.lst (os1.map rD) = Y1 at *
    generalize D.lst (os2.map rD) = Y2 at *
    generalize nD (2 ^ n) = PW at *
    generalize nD n = N at *
    generalize D.lst (ns.map .int) = SC at *
    unfold m_law_holds
    rw [fn1]
    unfold b__law_holds
    refine congrArg done ((asg_pass (d := DD) ?_).trans ?_)
    · simp [var, hc0', hd]
    refine (asg_pass (d := N) ?_).trans ?_
    · simp [var, y0, a0]
    refine (asg_pass (d := .lst [PL1, PL2]) ?_).trans ?_
    · simp [var, slc_eq, bnd_some, slc.bnd, sl, sh, htwo]
    refine (asg_pass (d := MM1) ?_).trans ?_
    · simp [var, j0, j1, P10, P11, e1]
    refine (asg_pass (d := MM2) ?_).trans ?_
    · simp [var, j0, j1, P20, P21, e2]
    refine (asg_pass (d := .lst [LL1, LL2]) ?_).trans ?_
    · simp [var, j0, j1, l1, l2]
    refine (asg_pass (d := LM1) ?_).trans ?_
    · simp [var, m1]
    refine (asg_pass (d := LM2) ?_).trans ?_
    · simp [var, m2]
    refine (chk_pass ?_).trans ?_
    · simp [var, j0, j1, i1, i2]
    refine (asg_pass (d := A) ?_).trans ?_
    · simp [var, j0, j1, lf]
    refine (asg_pass (d := .bl b) ?_).trans ?_
    · simp [var, em]
    refine (asg_pass (d := .bl b) ?_).trans ?_
    · simp [var, al]
    refine (chk_pass ?_).trans ?_
    · simp [var, i1b]
    refine (chk_pass ?_).trans ?_
    · simp [var, nA, nb]
    refine (asg_pass (d := A) ?_).trans ?_
    · simp [var, fu]
    rfl
  cases hs : seaP (S1 * S2) (2 ^ n) nx1 os1 nx2 os2 (0, 0) with
  | none =>
    have hq := g1 hs
    have ww := sea_none t1 t2 (b := (0, 0)) ⟨p1, p2⟩ (Nat.le_refl _) hs
    have wls := ww ls hls3
    have nn1 := law_number_ok (W := .lst (ls.map nD)) (.inl rfl) t1 u1 p1 hls3 (by omega)
    have nn2 := law_number_ok (W := .lst (ls.map nD)) (.inl rfl) t2 u2 p2 hls3 (by omega)
    have wr1 := written_ok (n := n) (W := .lst (ls.map nD)) (.inl rfl) hn3 t1 u1 p1 hls3 (by omega)
    have wr2 := written_ok (n := n) (W := .lst (ls.map nD)) (.inl rfl) hn3 t2 u2 p2 hls3 (by omega)
    dsimp only at wls
    rw [← wls] at nn2
    have ne : Py.one (nD (nbl (wr nx1 os1 0 ls))) (nD (nbl (wr nx1 os1 0 ls))) = .ok (.bl false) := by simp [nD]
    have c2 : oisN .non = .ok (.bl true) := rfl
    have c3 : onotN .non = .ok (.bl false) := rfl
    refine (pre .non true (by rw [hs]; rfl) rfl (decide_eq_true hq) _ rfl).trans ?_
    refine (congrArg done ?_).trans (done_ret (.bl true))
    change olrep (.lst [nD (2 ^ n)]) _ = _ at rp
    clear pre hdr hd htwo P10 P11 P20 P21 l1 l2 m1 m2 i1 i2 lf fu em sl e1 e2 hs
    generalize ((List.replicate k ((2 ^ n : Nat) : Int)).map D.int) = RP at *
    generalize D.lst [.int d0, .int d1, .int d2, .int d3, .int d4, .int (k : Int)] = DD at *
    generalize pairL (nx1, os1) = PL1 at *
    generalize pairL (nx2, os2) = PL2 at *
    generalize D.lst [pairL (lsN nx1 os1, lsO nx1 os1), pairL (lsN nx2 os2, lsO nx2 os2)] = LL1 at *
    generalize macD n (lsN nx1 os1) (lsO nx1 os1) = LM1 at *
    generalize macD n (lsN nx2 os2) (lsO nx2 os2) = LM2 at *
    generalize macD n nx1 os1 = MM1 at *
    generalize macD n nx2 os2 = MM2 at *
    generalize nD (nbl (wr nx1 os1 0 ls)) = NU at *
    generalize nD (2 ^ n) = PW at *
    generalize nD n = N at *
    generalize D.lst (ls.map nD) = LS at *
    generalize D.lst (ns.map .int) = SC at *
    generalize (k : Int) = K at *
    simp [var, y5, sh, c2, c3, hc6', rp, hls, j0, j1, nn1, nn2, ne, wr1, wr2]
  | some nd =>
    have hq := g2 nd hs
    obtain ⟨r1, r2, r3⟩ := sea_read t1 t2 u1 u2 (b := (0, 0)) ⟨p1, p2⟩ hs
    have rb := sea_bound t1 t2 u1 u2 p1 p2 hs
    have rp0 : 0 < (readP (2 ^ n) os1 os2 nd).length := by unfold readP; simp
    refine (pre (rD (readP (2 ^ n) os1 os2 nd)) false (by rw [hs]; rfl) rfl (decide_eq_false hq) _ rfl).trans ?_
    dsimp only at r2 r3
    generalize readP (2 ^ n) os1 os2 nd = R at *
    have rl : R.length ≤ 1000 := by omega
    have dl : R.dropLast.length < R.length := by rw [List.length_dropLast]; omega
    have rdl : ∀ l ∈ R.dropLast, l < 2 ^ n := fun l h => r1 l (List.dropLast_subset _ h)
    have r3' := r3 R.dropLast rdl dl
    have sm := same_ok (r := R) (by omega)
    have bl : blen (rD R) = .ok (nD R.length) := lenT R nD
    have ad : oadd (nD (fndM nx1 os1).length) (nD (fndM nx2 os2).length) = .ok (nD ((fndM nx1 os1).length + (fndM nx2 os2).length)) := nadd _ _
    have sb : osub (nD ((fndM nx1 os1).length + (fndM nx2 os2).length)) (.int 1) = .ok (nD ((fndM nx1 os1).length + (fndM nx2 os2).length - 1)) := nsub (b := 1) (by omega)
    have gt : ogt (nD R.length) (nD ((fndM nx1 os1).length + (fndM nx2 os2).length - 1)) = .ok (.bl false) := by
      unfold nD
      rw [ogt_ii, decide_eq_false (by omega)]
    have sw := slc_low R
    have nn1 := law_number_ok (W := rD R) (.inr rfl) t1 u1 p1 r1 rl
    have nn2 := law_number_ok (W := rD R) (.inr rfl) t2 u2 p2 r1 rl
    have mm1 := law_number_ok (W := rD R.dropLast) (.inr rfl) t1 u1 p1 rdl (by omega)
    have mm2 := law_number_ok (W := rD R.dropLast) (.inr rfl) t2 u2 p2 rdl (by omega)
    rw [← r3'] at mm2
    have wa1 := written_ok (n := n) (W := rD R) (.inr rfl) hn3 t1 u1 p1 r1 rl
    have wa2 := written_ok (n := n) (W := rD R) (.inr rfl) hn3 t2 u2 p2 r1 rl
    have wb1 := written_ok (n := n) (W := rD R.dropLast) (.inr rfl) hn3 t1 u1 p1 rdl (by omega)
    have wb2 := written_ok (n := n) (W := rD R.dropLast) (.inr rfl) hn3 t2 u2 p2 rdl (by omega)
    have nq := eq_NN (nbl (wr nx1 os1 0 R)) (nbl (wr nx2 os2 0 R))
    rw [decide_eq_false (fun e => r2 (nbl_inj (wr_lt t1 u1 R 0 p1 r1) (wr_lt t2 u2 R 0 p2 r1) (by rw [wr_len, wr_len]) e))] at nq
    have ne : Py.one (nD (nbl (wr nx1 os1 0 R.dropLast))) (nD (nbl (wr nx1 os1 0 R.dropLast))) = .ok (.bl false) := by simp [nD]
    have ng : oneg (.int 1) = .ok (.int (-1)) := rfl
    refine (congrArg done ((chk_pass ?_).trans ((chk_pass ?_).trans ((asg_pass (d := rD R.dropLast) ?_).trans ((chk_pass ?_).trans ((chk_pass ?_).trans ?_)))))).trans (done_ret (.bl true))
    · rfl
    all_goals
      clear pre hdr hd htwo P10 P11 P20 P21 l1 l2 m1 m2 i1 i2 lf fu em sl e1 e2 hs
      generalize D.lst [.int d0, .int d1, .int d2, .int d3, .int d4, .int (k : Int)] = DD at *
      generalize pairL (nx1, os1) = PL1 at *
      generalize pairL (nx2, os2) = PL2 at *
      generalize pairL (lsN nx1 os1, lsO nx1 os1) = LL1 at *
      generalize pairL (lsN nx2 os2, lsO nx2 os2) = LL2 at *
      generalize macD n (lsN nx1 os1) (lsO nx1 os1) = LM1 at *
      generalize macD n (lsN nx2 os2) (lsO nx2 os2) = LM2 at *
      generalize macD n nx1 os1 = MM1 at *
      generalize macD n nx2 os2 = MM2 at *
      generalize D.lst ((lsN nx1 os1).map rD) = X1 at *
      generalize D.lst ((lsN nx2 os2).map rD) = X2 at *
      generalize nD (nbl (wr nx1 os1 0 R)) = NU1 at *
      generalize nD (nbl (wr nx2 os2 0 R)) = NU2 at *
      generalize nD (nbl (wr nx1 os1 0 R.dropLast)) = NU3 at *
      generalize nD ((fndM nx1 os1).length + (fndM nx2 os2).length - 1) = Q1 at *
      generalize nD ((fndM nx1 os1).length + (fndM nx2 os2).length) = Q2 at *
      generalize nD (fndM nx1 os1).length = Q3 at *
      generalize nD (fndM nx2 os2).length = Q4 at *
      generalize nD R.length = RL at *
      generalize rD R.dropLast = RR at *
      generalize rD R = RD at *
      generalize nD n = N at *
      generalize D.lst (ns.map .int) = SC at *
    · simp [var, sm, bl, j0, j1, o0, o1, nl1, nl2, ad, sb, gt]
    · simp [var, slc_eq, bnd_some, bnd_none, ng, sw]
    · simp [var, j0, j1, nn1, nn2, nq, mm1, mm2, ne]
    · simp [var, j0, j1, wa1, wa2]
    · simp [var, j0, j1, wb1, wb2]
theorem law_true (ns : List Int) (h : ns.length ≤ 63) : m_law [.lst (ns.map .int)] = .ok (.bl true) := by
  have q := holds_ok ns
  generalize D.lst (ns.map .int) = S at *
  unfold m_law
  rw [fn1]
  unfold b_law
  simp [var, q]
end Py.U
open PySem PySem.W PySem.Calls PyProof.Rows
theorem PySem.Challenge.cw_onlycarries_k08_whole_alike_machines_holds : PySem.Challenge.rw_onlycarries_k08_whole_alike_machines.Holds := by
  w_on; o_law
  refine HandSHeadRun.head_any (r := OpenLaw.row PySem.Challenge.rw_onlycarries_k08_whole_alike_machines) (q := view (OpenLaw.row PySem.Challenge.rw_onlycarries_k08_whole_alike_machines).prog [51]) (H := Py.hkY) (ob := Py.ob) (M := 8000) (loose := Py.lo) (d := HandSHeadRun.topDef (OpenLaw.row PySem.Challenge.rw_onlycarries_k08_whole_alike_machines).prog 51) (kwd := []) Py.ob_eq
    (by kernel_rfl) (fun s => by kernel_rfl) Py.run (by kernel_rfl) (by kernel_rfl) (by kernel_rfl) (by rfl) (by first | assumption | decide +kernel) (by decide +kernel) ⟨rfl, rfl, rfl, rfl, rfl, by decide +kernel⟩ ?hw ?hc
  case hw => w_witness2
  case hc =>
    refine Py.walk_ofW (l := PySem.Challenge.rw_onlycarries_k08_whole_alike_machines) (n := 63) (k := 9) (x := "script") (CX := fun w => L2N.CX PySem.Challenge.pw_onlycarries_k08_whole_alike_machines w) rfl (by decide) (by kernel_rfl) ⟨rfl, by decide, by decide⟩ ?F (fun _ _ _ _ _ z => Py.cx_none z)
    intro w mg fa h Y G hmg0
    obtain ⟨K, KX, c, m, xq⟩ := Y
    have hmg : mg ("law" : PySem.Str) = some (.ref fa) := by
      have e : (HandSHeadRun.topDef (OpenLaw.row PySem.Challenge.rw_onlycarries_k08_whole_alike_machines).prog 51).name = ("law" : PySem.Str) := by kernel_rfl
      rw [← e]
      exact hmg0
    have YY : Py.Fs (PySem.Challenge.rw_onlycarries_k08_whole_alike_machines).prog w K mg := ⟨⟨c, m, h, KX, G⟩, xq, by kernel_rfl, by kernel_rfl⟩
    have e2 := hmg.symm.trans (YY.glo 57)
    cases e2
    obtain ⟨fd, hb, hF⟩ := Py.law_is (P := (PySem.Challenge.rw_onlycarries_k08_whole_alike_machines).prog) YY
    exact ⟨K, fd, _, KX, hb, fun H a ns hl _ hS => Py.sp_law YY.noL (Py.U.law_true ns hl) hS, fun base _ _ => hF base⟩
