import PyProof.Rows.All
import Wide.All
import OpenK.AllK
import Wide.FinOn
import HandS.ForMost
import HandS.WideBits
import HandS.Exc
import HandS.TryOnly
import HandS.ExcOwn
import HandS.WordsExc
import HandS.WordsList
import HandS.IsInst
import HandS.ExcCtx
import HandS.Hot
import HandS.HotCalls
import HandS.ExcIs
import HandS.ExcField
import HandS.Defaults
import HandS.Flow
import HandS.Style
import HandS.TupAny
import HandS.HeadHook1
import HandS.HeadHook2
import HandS.Dict
import KE.KeyNested
import HandS.Small
import HandS.WordsDict
import KE.KDictKeyed
import PyProof.Rows.SeqRoads
import HandS.CallSlots
import KE.GoesEnum
import HandS.HeadEnd
import HandS.HeadHook3
import HandS.Head3
import HandS.Zip
import HandS.ExcInit
import HandS.Nested
import KE.KExcSuper
import KE.KExcIs
import HandS.TupMul
import HandS.Conv
import HandS.Star
import KE.KDictDisplayH
import OpenK.KOps
import KE.BitLaws
import KE.KBits
import HandS.Head0
import HandS.Head1
import HandS.Head2
import PySem.Challenge.RW_onlycarries_k11_faults_of_rows
set_option Elab.async false
set_option linter.all false
set_option maxRecDepth 100000
set_option maxHeartbeats 0
/-! Plain data of a small Python, and what its expressions, statements and defs compute: total Lean functions, no program in sight. -/
namespace Py
open PySem L2
inductive D where
  | non | bl (b : Bool) | int (i : Int) | str (s : String)
  | tup (xs : List D) | lst (xs : List D) | dic (t : Bool) (kvs : List (D × D)) | ins (c : String) (fs : List (String × D))
  deriving Inhabited
inductive Res (α : Type) where
  | ok (a : α) | exc (c : String) (fs : List (String × D)) | stuck
@[reducible] def Res.bind {α β : Type} (r : Res α) (f : α → Res β) : Res β := match r with
  | .ok a => f a | .exc c fs => .exc c fs | .stuck => .stuck
instance : Monad Res := { pure := Res.ok, bind := Res.bind }
@[simp] theorem bind_ok {α β : Type} (a : α) (f : α → Res β) : (Res.ok a >>= f) = f a := rfl
@[simp] theorem bind_exc {α β : Type} (c : String) (fs) (f : α → Res β) : ((Res.exc c fs : Res α) >>= f) = .exc c fs := rfl
@[simp] theorem bind_stuck {α β : Type} (f : α → Res β) : ((Res.stuck : Res α) >>= f) = .stuck := rfl
@[simp] theorem pure_ok {α : Type} (a : α) : (pure a : Res α) = .ok a := rfl
def noexc {α : Type} : Res α → Res α
  | .ok a => .ok a | .exc _ _ => .stuck | .stuck => .stuck
@[simp] theorem noexc_ok {α : Type} (a : α) : noexc (.ok a : Res α) = .ok a := rfl
def SZ : Nat := 16777216
abbrev Env := List (Option D)
abbrev EM := Env → Res D
abbrev TM := Env → Res Bool
abbrev AM := Env → Res (List D)
inductive Fl where
  | next (e : Env) | ret (d : D) | brk (e : Env) | cnt (e : Env)
abbrev SM := Env → Res Fl
/-! ### data -/
def chk (n : Nat) (d : D) : Res D := if n ≤ SZ then .ok d else .stuck
theorem chk_ok {n : Nat} {d : D} (h : n ≤ SZ) : chk n d = .ok d := if_pos h
/-- no list, dict or instance within -/
def imm : D → Bool
  | .non | .bl _ | .int _ | .str _ => true
  | .tup xs => immL xs
  | .lst _ | .dic _ _ | .ins _ _ => false
where immL : List D → Bool
  | [] => true
  | d :: r => imm d && immL r
/-- no dict or instance within, at most n deep: == walks it -/
def pl : Nat → D → Bool
  | _, .non => true
  | _, .bl _ => true
  | _, .int _ => true
  | _, .str _ => true
  | n + 1, .tup xs => xs.all (pl n)
  | n + 1, .lst xs => xs.all (pl n)
  | _, _ => false
def plain (d : D) : Bool := pl 64 d
/-- no object but a text -/
def flatD : D → Bool
  | .non => true
  | .bl _ => true
  | .int _ => true
  | .str _ => true
  | _ => false
def b2i (b : Bool) : Int := if b then 1 else 0
/-- == of plain data -/
def eqv : D → D → Bool
  | .non, .non => true
  | .bl a, .bl b => a == b
  | .bl a, .int j => b2i a == j
  | .int i, .bl b => i == b2i b
  | .int i, .int j => i == j
  | .str a, .str b => a == b
  | .tup xs, .tup ys => eqvL xs ys
  | .lst xs, .lst ys => eqvL xs ys
  | _, _ => false
where eqvL : List D → List D → Bool
  | [], [] => true
  | x :: xs, y :: ys => eqv x y && eqvL xs ys
  | _, _ => false
inductive Ty where
  | non | bl | int | str | tup | lst | dic | cls (c : String)
  deriving DecidableEq
def isI (t : Ty) : D → Bool
  | .non => decide (t = .non)
  | .bl _ => decide (t = .bl) || decide (t = .int)
  | .int _ => decide (t = .int)
  | .str _ => decide (t = .str)
  | .tup _ => decide (t = .tup)
  | .lst _ => decide (t = .lst)
  | .dic _ _ => decide (t = .dic)
  | .ins c _ => decide (t = .cls c)
/-! ### operators -/
def oadd : D → D → Res D
  | .int i, .int j => .ok (.int (i + j))
  | .str a, .str b => if a.length + b.length ≤ SZ then .ok (.str (a ++ b)) else .stuck
  | .tup a, .tup b => if a.length + b.length ≤ SZ then .ok (.tup (a ++ b)) else .stuck
  | .lst a, .lst b => if a.length + b.length ≤ SZ then .ok (.lst (a ++ b)) else .stuck
  | _, _ => .stuck
def osub : D → D → Res D
  | .int i, .int j => .ok (.int (i - j))
  | _, _ => .stuck
def B64 : Nat := 18446744073709551616
def omul : D → D → Res D
  | .int i, .int j => if i.natAbs < B64 ∨ j.natAbs < B64 then .ok (.int (i * j)) else .stuck
  | _, _ => .stuck
/-- a list so many times -/
def olrep : D → D → Res D
  | .lst xs, .int k => if xs.length ≤ 1000 ∧ k.natAbs ≤ 1000 then .ok (.lst (List.replicate k.toNat xs).flatten) else .stuck
  | _, _ => .stuck
/-- a tuple so many times -/
def otrep : D → D → Res D
  | .tup xs, .int k => if xs.length ≤ 1000 ∧ k.natAbs ≤ 1000 then .ok (.tup (List.replicate k.toNat xs).flatten) else .stuck
  | _, _ => .stuck
def ofdiv : D → D → Res D
  | .int i, .int j => if 0 < j ∧ j < 1073741824 then .ok (.int (i / j)) else .stuck
  | _, _ => .stuck
def omod : D → D → Res D
  | .int i, .int j => if 0 < j then .ok (.int (i % j)) else .stuck
  | _, _ => .stuck
def opow : D → D → Res D
  | .int i, .int j => if 0 ≤ j ∧ j ≤ 1000000 ∧ i.natAbs < 18446744073709551616 then .ok (.int (i ^ j.toNat)) else .stuck
  | _, _ => .stuck
def oshl : D → D → Res D
  | .int i, .int j => if 0 ≤ j ∧ (Builtin.Int.intBits i : Int) + j ≤ 134217728 then .ok (.int (i * 2 ^ j.toNat)) else .stuck
  | _, _ => .stuck
def oshr : D → D → Res D
  | .int i, .int j => if 0 ≤ j then .ok (.int (i / 2 ^ j.toNat)) else .stuck
  | _, _ => .stuck
def oand : D → D → Res D
  | .int i, .int j => .ok (.int (Builtin.bitAnd i j))
  | _, _ => .stuck
def oor : D → D → Res D
  | .int i, .int j => .ok (.int (Builtin.bitOr i j))
  | _, _ => .stuck
def oxor : D → D → Res D
  | .int i, .int j => .ok (.int (Builtin.bitXor i j))
  | _, _ => .stuck
def oneg : D → Res D
  | .int i => .ok (.int (-i))
  | _ => .stuck
def opt : Option D → Res D
  | some d => .ok d
  | none => .stuck
def tyOf : D → Ty
  | .non => .non | .bl _ => .bl | .int _ => .int | .str _ => .str | .tup _ => .tup | .lst _ => .lst | .dic _ _ => .dic | .ins c _ => .cls c
/-- an instance's class is among these, so is a class that is asked for -/
def inCs (cs : List String) : Ty → Bool
  | .cls c => cs.contains c
  | .dic => false
  | _ => true
def oisi (cs : List String) (ts : List Ty) (d : D) : Res D := if inCs cs (tyOf d) && ts.all (fun t => inCs cs t && decide (t ≠ .non)) then .ok (.bl (ts.any fun t => isI t d)) else .stuck
def oattr (cs : List String) (f : String) : D → Res D
  | .ins c fs => if cs.contains c then opt (fs.lookup f) else .stuck
  | _ => .stuck
def oior : D → D → Res D
  | .int i, .int j => .ok (.int (Builtin.bitOr i j))
  | _, _ => .stuck
def olt : D → D → Res D
  | .int i, .int j => .ok (.bl (decide (i < j)))
  | _, _ => .stuck
def ole : D → D → Res D
  | .int i, .int j => .ok (.bl (decide (i ≤ j)))
  | _, _ => .stuck
def ogt : D → D → Res D
  | .int i, .int j => .ok (.bl (decide (j < i)))
  | _, _ => .stuck
def oge : D → D → Res D
  | .int i, .int j => .ok (.bl (decide (j ≤ i)))
  | _, _ => .stuck
def oeq (x y : D) : Res D := if plain x && plain y then .ok (.bl (eqv x y)) else .stuck
def one (x y : D) : Res D := if plain x && plain y then .ok (.bl (!eqv x y)) else .stuck
/-- x in ys -/
def mem (x : D) : List D → Bool
  | [] => false
  | y :: r => eqv y x || mem x r
/-- numbers, None and tuples of such, at most n deep -/
def hk : Nat → D → Bool
  | _, .non => true
  | _, .bl _ => true
  | _, .int _ => true
  | n + 1, .tup xs => xs.all (hk n)
  | _, _ => false
/-- a key of a dict; t: its keys are tuples -/
def keyOk : Bool → D → Bool
  | false, .int _ => true
  | false, .str _ => true
  | true, .tup xs => hk 8 (.tup xs)
  | _, _ => false
def find (k : D) : List (D × D) → Option D
  | [] => none
  | (a, v) :: r => if eqv a k then some v else find k r
/-- d[k] = v -/
def putD (k v : D) : List (D × D) → List (D × D)
  | [] => [(k, v)]
  | (a, x) :: r => if eqv a k then (a, v) :: r else (a, x) :: putD k v r
def oin : D → D → Res D
  | x, .lst ys => if flatD x && ys.all flatD then .ok (.bl (mem x ys)) else .stuck
  | x, .tup ys => if flatD x && ys.all flatD then .ok (.bl (mem x ys)) else .stuck
  | x, .dic t kvs => if keyOk t x then .ok (.bl (find x kvs).isSome) else .stuck
  | _, _ => .stuck
def onotin : D → D → Res D
  | x, .lst ys => if flatD x && ys.all flatD then .ok (.bl (!mem x ys)) else .stuck
  | x, .tup ys => if flatD x && ys.all flatD then .ok (.bl (!mem x ys)) else .stuck
  | x, .dic t kvs => if keyOk t x then .ok (.bl (!(find x kvs).isSome)) else .stuck
  | _, _ => .stuck
def isNon : D → Bool
  | .non => true
  | _ => false
def oisN (x : D) : Res D := .ok (.bl (isNon x))
def onotN (x : D) : Res D := .ok (.bl (!isNon x))
def truthy : D → Res Bool
  | .non => .ok false
  | .bl b => .ok b
  | .int i => .ok (i != 0)
  | .str s => if s.length ≤ SZ then .ok (s.length != 0) else .stuck
  | .tup xs => .ok (!xs.isEmpty)
  | .lst xs => .ok (!xs.isEmpty)
  | _ => .stuck
def onb : D → Res D
  | .bl k => .ok (.bl (!k))
  | _ => .stuck
/-! ### subscripts -/
def oidx : D → D → Res D
  | .lst xs, .int i => opt (atI xs i)
  | .tup xs, .int i => opt (atI xs i)
  | .str s, .int i => if s.length ≤ SZ then opt ((atI s.toList i).map fun c => .str (String.ofList [c])) else .stuck
  | .dic t kvs, k => if keyOk t k then opt (find k kvs) else .stuck
  | _, _ => .stuck
/-- the items from lo up to hi -/
def cut {α : Type} (xs : List α) (lo hi : Option Int) : List α := (xs.drop (HT.sIx xs.length 0 lo)).take (HT.sIx xs.length xs.length hi - HT.sIx xs.length 0 lo)
def oslc : D → Option Int → Option Int → Res D
  | .lst xs, lo, hi => .ok (.lst (cut xs lo hi))
  | .tup xs, lo, hi => .ok (.tup (cut xs lo hi))
  | .str s, lo, hi => if s.length ≤ SZ then .ok (.str (String.ofList (cut s.toList lo hi))) else .stuck
  | _, _, _ => .stuck
/-! ### a table of the module: texts to numbers -/
def onothas (tab : List (String × Int)) : D → Res D
  | .str s => .ok (.bl (!(tab.lookup s).isSome))
  | _ => .stuck
def olook (tab : List (String × Int)) : D → Res D
  | .str s => opt ((tab.lookup s).map D.int)
  | _ => .stuck
/-! ### built-in calls -/
def blen : D → Res D
  | .lst xs => .ok (.int xs.length)
  | .tup xs => .ok (.int xs.length)
  | .str s => if s.length ≤ SZ then .ok (.int s.length) else .stuck
  | .dic _ kvs => .ok (.int kvs.length)
  | _ => .stuck
def bint : D → Res D
  | .int i => .ok (.int i)
  | .bl b => .ok (.int (b2i b))
  | _ => .stuck
def btuple : D → Res D
  | .lst xs => .ok (.tup xs)
  | .tup xs => .ok (.tup xs)
  | _ => .stuck
def blist : D → Res D
  | .lst xs => .ok (.lst xs)
  | .tup xs => .ok (.lst xs)
  | _ => .stuck
def intsOf : List D → Option (List Int)
  | [] => some []
  | .int i :: r => (intsOf r).map (i :: ·)
  | _ :: _ => none
def boolsOf : List D → Option (List Bool)
  | [] => some []
  | .bl i :: r => (boolsOf r).map (i :: ·)
  | _ :: _ => none
def bsum : D → Res D
  | .lst xs => match intsOf xs with | some is => .ok (.int is.sum) | none => .stuck
  | _ => .stuck
def ball : D → Res D
  | .lst xs => match boolsOf xs with | some bs => .ok (.bl (bs.all id)) | none => .stuck
  | _ => .stuck
def bbits : D → Res D
  | .int i => .ok (.int (Builtin.Int.intBits i : Nat))
  | _ => .stuck
/-! ### expressions -/
def var (i : Nat) : EM := fun e => match e[i]? with | some (some d) => .ok d | _ => .stuck
def cst (d : D) : EM := fun _ => .ok d
def un (f : D → Res D) (a : EM) : EM := fun e => a e >>= f
def bin (f : D → D → Res D) (a b : EM) : EM := fun e => a e >>= fun x => b e >>= fun y => f x y
def argN : AM := fun _ => .ok []
def argC (a : EM) (r : AM) : AM := fun e => a e >>= fun x => r e >>= fun xs => .ok (x :: xs)
def tupE (a : AM) : EM := fun e => a e >>= fun xs => chk xs.length (.tup xs)
def lstE (a : AM) : EM := fun e => a e >>= fun xs => chk xs.length (.lst xs)
/-- x and y, x or y as values, x a truth -/
def andE (a b : EM) : EM := fun e => a e >>= fun x => match x with | .bl true => b e | .bl false => .ok (.bl false) | _ => .stuck
def orE (a b : EM) : EM := fun e => a e >>= fun x => match x with | .bl false => b e | .bl true => .ok (.bl true) | _ => .stuck
/-- a < b < c -/
def chain (f g : D → D → Res D) (a b c : EM) : EM := fun e => a e >>= fun x => b e >>= fun y => f x y >>= fun z => match z with
  | .bl true => c e >>= fun u => g y u
  | .bl false => .ok (.bl false)
  | _ => .stuck
def tst (a : EM) : TM := fun e => a e >>= truthy
def andT (a b : TM) : TM := fun e => a e >>= fun x => if x then b e else .ok false
def orT (a b : TM) : TM := fun e => a e >>= fun x => if x then .ok true else b e
def notT (a : TM) : TM := fun e => a e >>= fun x => .ok (!x)
def ifE (t : TM) (a b : EM) : EM := fun e => t e >>= fun x => if x then a e else b e
def slc (a : EM) (lo hi : Option EM) : EM := fun e => a e >>= fun x => bnd lo e >>= fun i => bnd hi e >>= fun j => oslc x i j
where bnd : Option EM → Env → Res (Option Int)
  | none, _ => .ok none
  | some m, e => m e >>= fun d => match d with | .int i => .ok (some i) | _ => .stuck
def call (f : List D → Res D) (a : AM) : EM := fun e => a e >>= f
/-- a call with a list that the caller owns: what comes back holds no list -/
def callI (f : List D → Res D) (a : AM) : EM := fun e => a e >>= fun ds => match f ds with
  | .ok d => if imm d then .ok d else .stuck
  | .exc c fs => if fs.all (fun q => imm q.2) then .exc c fs else .stuck
  | .stuck => .stuck
/-- o.m(..), o of class c -/
def callM (c m : String) (f : List D → Res D) (a : EM) (am : AM) : EM := fun e => a e >>= fun o => match o with
  | .ins c' fs => if c' = c ∧ (fs.lookup m).isNone = true then am e >>= fun ds => f (o :: ds) else .stuck
  | _ => .stuck
/-! what is walked -/
abbrev IM := Env → Res (List D)
def iseq (a : EM) : IM := fun e => a e >>= fun x => match x with | .lst xs => .ok xs | .tup xs => .ok xs | _ => .stuck
def B62 : Nat := 4611686018427387904
def rngL (lo hi : Int) : List D := (List.range (hi - lo).toNat).map fun i => .int (lo + (i : Nat))
def irng1 (a : EM) : IM := fun e => a e >>= fun x => match x with
  | .int n => if n.natAbs < B62 then .ok (rngL 0 n) else .stuck
  | _ => .stuck
def enumL (n : Nat) : List D → List D
  | [] => []
  | d :: r => .tup [.int n, d] :: enumL (n + 1) r
def ienum (a : EM) : IM := fun e => iseq a e >>= fun xs => .ok (enumL 0 xs)
/-! targets -/
def lift {α : Type} : Option α → Res α
  | some a => .ok a
  | none => .stuck
@[simp] theorem lift_some {α : Type} (a : α) : lift (some a) = .ok a := rfl
@[simp] theorem lift_none {α : Type} : lift (none : Option α) = .stuck := rfl
abbrev GM := D → Env → Option Env
def gnm (i : Nat) : GM := fun d e => some (e.set i (some d))
def gtupL : List GM → List D → Env → Option Env
  | [], [], e => some e
  | g :: gs, d :: ds, e => (g d e).bind (gtupL gs ds)
  | _, _, _ => none
def gtup (gs : List GM) : GM := fun d e => match d with | .tup xs => gtupL gs xs e | _ => none
/-! comprehensions -/
def wipe (e : Env) : List Nat → Env
  | [] => e
  | i :: r => (wipe e r).set i none
def compL (f : D → Res (Option D)) : List D → Res (List D)
  | [] => .ok []
  | x :: xs => f x >>= fun o => compL f xs >>= fun ys => .ok (match o with | some y => y :: ys | none => ys)
def yes : TM := fun _ => .ok true
def compF (vs : List Nat) (g : GM) (t : TM) (elt : EM) (e : Env) (x : D) : Res (Option D) :=
  lift (g x (wipe e vs)) >>= fun e1 => t e1 >>= fun b => if b then elt e1 >>= fun y => .ok (some y) else .ok none
def lcE (it : IM) (vs : List Nat) (g : GM) (t : TM) (elt : EM) : EM := fun e => it e >>= fun xs =>
  noexc (compL (compF vs g t elt e) xs) >>= fun ys => chk xs.length (.lst ys)
/-! ### statements -/
def seq (a b : SM) : SM := fun e => a e >>= fun f => match f with | .next e' => b e' | r => .ok r
def skip : SM := fun e => .ok (.next e)
def asg (g : GM) (m : EM) : SM := fun e => m e >>= fun d => lift (g d e) >>= fun e' => .ok (.next e')
def aug (i : Nat) (f : D → D → Res D) (m : EM) : SM := fun e => var i e >>= fun x => m e >>= fun y => f x y >>= fun z => .ok (.next (e.set i (some z)))
def drop (m : EM) : SM := fun e => m e >>= fun _ => .ok (.next e)
def ret (m : EM) : SM := fun e => m e >>= fun d => .ok (.ret d)
def retN : SM := fun _ => .ok (.ret .non)
def ite (t : TM) (a b : SM) : SM := fun e => t e >>= fun x => if x then a e else b e
def brk : SM := fun e => .ok (.brk e)
def cnt : SM := fun e => .ok (.cnt e)
def forL (body : D → Env → Res Fl) : List D → Env → Res Fl
  | [], e => .ok (.next e)
  | x :: xs, e => match body x e with
    | .ok (.next e') => forL body xs e'
    | .ok (.cnt e') => forL body xs e'
    | .ok (.brk e') => .ok (.next e')
    | .ok (.ret d) => .ok (.ret d)
    | .exc c fs => .exc c fs
    | .stuck => .stuck
def forB (g : GM) (body : SM) (x : D) (e : Env) : Res Fl := lift (g x e) >>= body
def for_ (it : IM) (g : GM) (body : SM) : SM := fun e => it e >>= fun xs => forL (forB g body) xs e
/-- a name's own list grows -/
def app (i : Nat) (m : EM) : SM := fun e => var i e >>= fun l => match l with
  | .lst xs => m e >>= fun d => if xs.length < SZ then .ok (.next (e.set i (some (.lst (xs ++ [d]))))) else .stuck
  | _ => .stuck
/-- xs[j] = v of a name's own list or dict -/
def setL (i : Nat) (j m : EM) : SM := fun e => var i e >>= fun l => match l with
  | .lst xs => m e >>= fun d => j e >>= fun k => match k with
    | .int z => match ixN xs.length z with
      | some n => .ok (.next (e.set i (some (.lst (xs.set n d)))))
      | none => .stuck
    | _ => .stuck
  | .dic t kvs => m e >>= fun d => j e >>= fun k => if keyOk t k && decide (kvs.length < SZ) then .ok (.next (e.set i (some (.dic t (putD k d kvs))))) else .stuck
  | _ => .stuck
/-- x.extend(y) of a name's own list -/
def ext (i : Nat) (m : EM) : SM := fun e => var i e >>= fun l => match l with
  | .lst xs => m e >>= fun d => match d with
    | .lst ys => if xs.length + ys.length ≤ SZ then .ok (.next (e.set i (some (.lst (xs ++ ys))))) else .stuck
    | _ => .stuck
  | _ => .stuck
def putF (f : String) (d : D) : List (String × D) → List (String × D)
  | [] => [(f, d)]
  | (g, x) :: r => if g = f then (f, d) :: r else (g, x) :: putF f d r
/-- self.f = v in an __init__ -/
def setF (i : Nat) (cs : List String) (f : String) (m : EM) : SM := fun e => var i e >>= fun o => match o with
  | .ins c fs => if cs.contains c ∧ fs.length < 1000 then m e >>= fun d => .ok (.next (e.set i (some (.ins c (putF f d fs))))) else .stuck
  | _ => .stuck
/-- raise C(..) -/
def rais (c : String) (ns : List String) (a : AM) : SM := fun e => a e >>= fun ds => if ds.length = ns.length then .exc c (ns.zip ds).reverse else .stuck
/-- code that is not reached -/
def dead : SM := fun _ => .stuck
def thru (m : SM) : SM := fun e => noexc (m e)
/-! ### errors that are caught -/
/-- try: b, except ..: what is done with the error's class and fields; i: the name's slot -/
def tryE (es : List String) (i : Nat) (b : SM) (h : String → List (String × D) → SM) : SM := fun e => match b e with
  | .exc c fs => if es.contains c && decide (i < e.length) then (match h c fs (e.set i none) with
      | .ok (.next e') => .ok (.next (e'.set i none))
      | .ok (.ret d) => .ok (.ret d)
      | _ => .stuck) else .stuck
  | r => r
def xisa (c : String) (ts : List String) : Bool := ts.any fun t => c == t || (t == "CarryError" || t == "ValueError")
/-- isinstance(e, (..)) of the caught error -/
def xis (es all : List String) (c : String) (ts : List String) : EM := fun _ => if es.contains c && ts.all all.contains then .ok (.bl (xisa c ts)) else .stuck
/-- e.f -/
def xfld (es fl : List String) (c f : String) (fs : List (String × D)) : EM := fun _ => if es.contains c && fl.contains f then opt (fs.lookup f) else .stuck
/-! ### defs -/
def done : Res Fl → Res D
  | .ok (.next _) => .ok .non
  | .ok (.ret d) => .ok d
  | .ok (.brk _) => .stuck
  | .ok (.cnt _) => .stuck
  | .exc c fs => .exc c fs
  | .stuck => .stuck
/-- a def of p parameters and n names -/
def fn (p n : Nat) (body : SM) (ds : List D) : Res D := if ds.length = p then done (body (ds.map some ++ List.replicate (n - p) none)) else .stuck
def made (p n : Nat) (cls : String) (body : SM) (ds : List D) : Res D := if ds.length + 1 = p then
  match body ((some (.ins cls []) :: ds.map some) ++ List.replicate (n - p) none) with
  | .ok (.next (some (.ins c fs) :: _)) => .ok (.ins c fs)
  | .exc c fs => .exc c fs
  | _ => .stuck else .stuck
end Py
/-! More of what is computed. -/
/-! What plain data look like in the abstract heap, and the readings that say: this code computes that. -/
namespace Py
open PySem L2
abbrev Frag := PySem.W.Frag
/-- the class that a module's name stands for -/
def ca (K : Frag) (c : String) : Addr := He.ga K (Str.ofString c)
theorem ofS_inj {a b : String} (h : Str.ofString a = Str.ofString b) : a = b := by
  rw [Str.ofString_eq_toList, Str.ofString_eq_toList] at h
  have h1 : a.toList.map Char.toNat = b.toList.map Char.toNat := by
    have := congrArg (fun s : Str => s.cps.toList) h
    simpa using this
  have h2 : a.toList = b.toList := by
    have hc : ∀ x y : Char, x.toNat = y.toNat → x = y := fun x y e => by
      apply Char.ext
      apply UInt32.toNat_inj.mp
      exact e
    generalize a.toList = l at h1
    generalize b.toList = m at h1
    induction l generalizing m with
    | nil => cases m with
      | nil => rfl
      | cons _ _ => simp at h1
    | cons x l ih => cases m with
      | nil => simp at h1
      | cons y m =>
        simp only [List.map_cons, List.cons.injEq] at h1
        rw [hc _ _ h1.1, ih m h1.2]
  exact String.ext_iff.mpr h2
/-- an address set to be avoided -/
abbrev AS := Addr → Prop
/-- a key of a dict of numbers and texts -/
def kvK : D → Option Key
  | .int i => some (.inl i)
  | .str s => some (.inr (Str.ofString s))
  | _ => none
mutual
/-- a key, nested -/
def nk : D → Option NestedKey
  | .non => some .none
  | .bl b => some (.num (b2i b))
  | .int i => some (.num i)
  | .tup xs => (nkL xs).map .tup
  | _ => none
def nkL : List D → Option (List NestedKey)
  | [] => some []
  | d :: r => match nk d, nkL r with | some k, some ks => some (k :: ks) | _, _ => none
end
def entW (w : World) (x : NestedKey × Addr × Value) : DictEntry := ⟨x.1.hash w, .ref x.2.1, x.2.2⟩
/-- a dict whose keys are tuples -/
def dicT (a : Addr) (es : List (NestedKey × Addr × V)) : HO := .ext fun h => (a == sysModules) = false ∧ es.length ≤ sizeLine ∧ ∃ xs : List (NestedKey × Addr × Value), Paired (fun p q => p.1 = q.1 ∧ p.2.1 = q.2.1 ∧ RelV p.2.2 q.2.2) es xs ∧
  ∃ o en ep, h.get? a = some o ∧ o.ExactDict ∧ o.data = .dict en ep ∧ (∀ w : World, en.toList = xs.map (entW w)) ∧ (xs.map (·.1)).Nodup
mutual
def Rep (K : Frag) (A : AS) (H : Hp) : D → V → Prop
  | .non, v => v = .non
  | .bl b, v => v = .bl b
  | .int i, v => v = .int i
  | .str s, v => v = .str (Str.ofString s)
  | .tup xs, v => ∃ a vs, v = .ref a ∧ SqT K H a vs ∧ RepL K A H xs vs
  | .lst xs, v => ∃ a vs, v = .ref a ∧ ¬ A a ∧ Rd H a (.lst vs) ∧ RepL K A H xs vs
  | .dic t kvs, v => ∃ a, v = .ref a ∧ ¬ A a ∧ ((t = false ∧ ∃ ks, H a = some (.dK ks) ∧ RepK K A H kvs ks) ∨ (t = true ∧ ∃ es, H a = some (dicT a es) ∧ RepT K A H kvs es))
  | .ins c fs, v => ∃ a dx fvs, v = .ref a ∧ ¬ A a ∧ H a = some (.ins (ca K c) dx fvs) ∧ RepF K A H fs fvs
def RepL (K : Frag) (A : AS) (H : Hp) : List D → List V → Prop
  | [], vs => vs = []
  | d :: ds, vs => ∃ v r, vs = v :: r ∧ Rep K A H d v ∧ RepL K A H ds r
def RepF (K : Frag) (A : AS) (H : Hp) : List (String × D) → List (Str × V) → Prop
  | [], fs => fs = []
  | (n, d) :: r, fs => ∃ v q, fs = (Str.ofString n, v) :: q ∧ Rep K A H d v ∧ RepF K A H r q
def RepK (K : Frag) (A : AS) (H : Hp) : List (D × D) → List (Key × V) → Prop
  | [], ks => ks = []
  | (k, d) :: r, ks => ∃ c v q, ks = (c, v) :: q ∧ kvK k = some c ∧ Rep K A H d v ∧ RepK K A H r q
def RepT (K : Frag) (A : AS) (H : Hp) : List (D × D) → List (NestedKey × Addr × V) → Prop
  | [], es => es = []
  | (k, d) :: r, es => ∃ c b v q, es = (c, b, v) :: q ∧ (nk k = some c ∧ keyOk true k = true) ∧ Rep K A H k (.ref b) ∧ Rep K A H d v ∧ RepT K A H r q
end
/-- what a dict at a holds -/
def DicAt (K : Frag) (A : AS) (H : Hp) (a : Addr) (t : Bool) (kvs : List (D × D)) : Prop := (t = false ∧ ∃ ks, H a = some (.dK ks) ∧ RepK K A H kvs ks) ∨ (t = true ∧ ∃ es, H a = some (dicT a es) ∧ RepT K A H kvs es)
theorem rep_dic {K : Frag} {A : AS} {H : Hp} {t : Bool} {kvs : List (D × D)} {v : V} : Rep K A H (.dic t kvs) v ↔ ∃ a, v = .ref a ∧ ¬ A a ∧ DicAt K A H a t kvs := by
  simp only [Rep]
  exact Iff.rfl
/-- a tuple never changes -/
def still : HO → Prop
  | .tup _ => True
  | .frz _ (.tup _) => True
  | _ => False
/-- from H to H': what is not in A is kept, the new A' has of the old heap only A -/
structure Mv (A : AS) (H : Hp) (A' : AS) (H' : Hp) : Prop where
  av : ∀ a, A' a → A a ∨ H a = none
  kp : ∀ a o, H a = some o → (¬ A a ∨ still o) → H' a = some o
theorem Mv.same {A : AS} {H H' : Hp} (s : Same H H') : Mv A H A H' := ⟨fun _ h => .inl h, fun a o e _ => s a o e⟩
theorem Mv.less {A A' : AS} {H : Hp} (s : ∀ a, A' a → A a) : Mv A H A' H := ⟨fun a h => .inl (s a h), fun _ _ e _ => e⟩
theorem Mv.refl {A : AS} {H : Hp} : Mv A H A H := .same (Same.refl H)
theorem Mv.trans {A A1 A2 : AS} {H H1 H2 : Hp} (h : Mv A H A1 H1) (k : Mv A1 H1 A2 H2) : Mv A H A2 H2 := by
  refine ⟨fun a x => ?_, fun a o e q => ?_⟩
  · rcases k.av a x with y | y
    · exact h.av a y
    · cases e : H a with
      | none => exact .inr rfl
      | some o =>
        by_cases hA : A a
        · exact .inl hA
        · rw [h.kp a o e (.inl hA)] at y
          cases y
  · refine k.kp a o (h.kp a o e q) ?_
    rcases q with q | q
    · refine .inl fun y => ?_
      rcases h.av a y with z | z
      · exact q z
      · rw [e] at z
        cases z
    · exact .inr q
theorem Rd.move {A A' : AS} {H H' : Hp} {a : Addr} {u : HO} (m : Mv A H A' H') (h : Rd H a u) (n : ¬ A a) : Rd H' a u ∧ ¬ A' a := by
  have key : ∀ o, H a = some o → H' a = some o ∧ ¬ A' a := fun o e => ⟨m.kp a o e (.inl n), fun x => by
    rcases m.av a x with y | y
    · exact n y
    · rw [e] at y
      cases y⟩
  rcases h with h | ⟨o, h⟩
  · exact ⟨.inl (key _ h).1, (key _ h).2⟩
  · exact ⟨.inr ⟨o, (key _ h).1⟩, (key _ h).2⟩
theorem SqT.move {K : Frag} {A A' : AS} {H H' : Hp} {a : Addr} {vs : List V} (m : Mv A H A' H') (h : SqT K H a vs) : SqT K H' a vs := by
  rcases h with (h | ⟨o, h⟩) | h
  · exact .inl (.inl (m.kp a _ h (.inr trivial)))
  · exact .inl (.inr ⟨o, m.kp a _ h (.inr trivial)⟩)
  · exact .inr h
mutual
theorem Rep.move {K : Frag} {A A' : AS} {H H' : Hp} (m : Mv A H A' H') : ∀ (d : D) (v : V), Rep K A H d v → Rep K A' H' d v
  | .non, _, h => h
  | .bl _, _, h => h
  | .int _, _, h => h
  | .str _, _, h => h
  | .tup xs, v, h => by
    simp only [Rep] at h ⊢
    obtain ⟨a, vs, e, q, r⟩ := h
    exact ⟨a, vs, e, SqT.move m q, RepL.move m xs vs r⟩
  | .lst xs, v, h => by
    simp only [Rep] at h ⊢
    obtain ⟨a, vs, e, n, q, r⟩ := h
    exact ⟨a, vs, e, (Rd.move m q n).2, (Rd.move m q n).1, RepL.move m xs vs r⟩
  | .dic t kvs, v, h => by
    simp only [Rep] at h ⊢
    obtain ⟨a, e, n, ⟨ht, ks, q, r⟩ | ⟨ht, es, q, r⟩⟩ := h
    · have z := Rd.move m (.inl q) n
      exact ⟨a, e, z.2, .inl ⟨ht, ks, m.kp a _ q (.inl n), RepK.move m kvs ks r⟩⟩
    · have z := Rd.move m (.inl q) n
      exact ⟨a, e, z.2, .inr ⟨ht, es, m.kp a _ q (.inl n), RepT.move m kvs es r⟩⟩
  | .ins c fs, v, h => by
    simp only [Rep] at h ⊢
    obtain ⟨a, dx, fvs, e, n, q, r⟩ := h
    have z : Rd H' a _ ∧ ¬ A' a := Rd.move m (.inl q) n
    refine ⟨a, dx, fvs, e, z.2, ?_, RepF.move m fs fvs r⟩
    exact m.kp a _ q (.inl n)
theorem RepL.move {K : Frag} {A A' : AS} {H H' : Hp} (m : Mv A H A' H') : ∀ (ds : List D) (vs : List V), RepL K A H ds vs → RepL K A' H' ds vs
  | [], vs, h => by
    simp only [RepL] at h ⊢
    exact h
  | d :: ds, vs, h => by
    simp only [RepL] at h ⊢
    obtain ⟨v, r, e, h1, h2⟩ := h
    exact ⟨v, r, e, Rep.move m d v h1, RepL.move m ds r h2⟩
theorem RepF.move {K : Frag} {A A' : AS} {H H' : Hp} (m : Mv A H A' H') : ∀ (ds : List (String × D)) (vs : List (Str × V)), RepF K A H ds vs → RepF K A' H' ds vs
  | [], vs, h => by
    simp only [RepF] at h ⊢
    exact h
  | (n, d) :: ds, vs, h => by
    simp only [RepF] at h ⊢
    obtain ⟨v, r, e, h1, h2⟩ := h
    exact ⟨v, r, e, Rep.move m d v h1, RepF.move m ds r h2⟩
theorem RepK.move {K : Frag} {A A' : AS} {H H' : Hp} (m : Mv A H A' H') : ∀ (ds : List (D × D)) (vs : List (Key × V)), RepK K A H ds vs → RepK K A' H' ds vs
  | [], vs, h => by
    simp only [RepK] at h ⊢
    exact h
  | (k, d) :: ds, vs, h => by
    simp only [RepK] at h ⊢
    obtain ⟨c, v, r, e, h0, h1, h2⟩ := h
    exact ⟨c, v, r, e, h0, Rep.move m d v h1, RepK.move m ds r h2⟩
theorem RepT.move {K : Frag} {A A' : AS} {H H' : Hp} (m : Mv A H A' H') : ∀ (ds : List (D × D)) (vs : List (NestedKey × Addr × V)), RepT K A H ds vs → RepT K A' H' ds vs
  | [], vs, h => by
    simp only [RepT] at h ⊢
    exact h
  | (k, d) :: ds, vs, h => by
    simp only [RepT] at h ⊢
    obtain ⟨c, b, v, r, e, h0, h1, h2, h3⟩ := h
    exact ⟨c, b, v, r, e, h0, Rep.move m k _ h1, Rep.move m d v h2, RepT.move m ds r h3⟩
end
theorem DicAt.move {K : Frag} {A A' : AS} {H H' : Hp} {a : Addr} {t : Bool} {kvs : List (D × D)} (m : Mv A H A' H') (k : H' a = H a) (h : DicAt K A H a t kvs) : DicAt K A' H' a t kvs := by
  rcases h with ⟨ht, ks, q, r⟩ | ⟨ht, es, q, r⟩
  · exact .inl ⟨ht, ks, k.trans q, RepK.move m kvs ks r⟩
  · exact .inr ⟨ht, es, k.trans q, RepT.move m kvs es r⟩
theorem RepL.length {K : Frag} {A : AS} {H : Hp} : ∀ {ds : List D} {vs : List V}, RepL K A H ds vs → ds.length = vs.length
  | [], vs, h => by
    simp only [RepL] at h
    subst h
    rfl
  | d :: ds, vs, h => by
    simp only [RepL] at h
    obtain ⟨v, r, rfl, h1, h2⟩ := h
    simp [RepL.length h2]
theorem RepL.get {K : Frag} {A : AS} {H : Hp} : ∀ {ds : List D} {vs : List V} {i : Nat} {d : D}, RepL K A H ds vs → ds[i]? = some d → ∃ v, vs[i]? = some v ∧ Rep K A H d v
  | [], vs, i, d, h, e => by simp at e
  | d0 :: ds, vs, i, d, h, e => by
    simp only [RepL] at h
    obtain ⟨v, r, rfl, h1, h2⟩ := h
    cases i with
    | zero =>
      simp at e
      subst e
      exact ⟨v, rfl, h1⟩
    | succ i =>
      obtain ⟨w, q1, q2⟩ := RepL.get (i := i) h2 (by simpa using e)
      exact ⟨w, by simpa using q1, q2⟩
theorem RepL.append {K : Frag} {A : AS} {H : Hp} : ∀ {ds es : List D} {vs ws : List V}, RepL K A H ds vs → RepL K A H es ws → RepL K A H (ds ++ es) (vs ++ ws)
  | [], es, vs, ws, h, k => by
    simp only [RepL] at h
    subst h
    exact k
  | d :: ds, es, vs, ws, h, k => by
    simp only [RepL] at h
    obtain ⟨v, r, rfl, h1, h2⟩ := h
    simp only [List.cons_append, RepL]
    exact ⟨v, r ++ ws, rfl, h1, RepL.append h2 k⟩
theorem RepL.drop {K : Frag} {A : AS} {H : Hp} : ∀ {ds : List D} {vs : List V} (n : Nat), RepL K A H ds vs → RepL K A H (ds.drop n) (vs.drop n)
  | ds, vs, 0, h => h
  | [], vs, n + 1, h => by
    simp only [RepL] at h
    subst h
    simp [RepL]
  | d :: ds, vs, n + 1, h => by
    simp only [RepL] at h
    obtain ⟨v, r, rfl, h1, h2⟩ := h
    exact RepL.drop n h2
theorem RepL.take {K : Frag} {A : AS} {H : Hp} : ∀ {ds : List D} {vs : List V} (n : Nat), RepL K A H ds vs → RepL K A H (ds.take n) (vs.take n)
  | ds, vs, 0, h => by simp [RepL]
  | [], vs, n + 1, h => by
    simp only [RepL] at h
    subst h
    simp [RepL]
  | d :: ds, vs, n + 1, h => by
    simp only [RepL] at h
    obtain ⟨v, r, rfl, h1, h2⟩ := h
    simp only [List.take_succ_cons, RepL]
    exact ⟨v, _, rfl, h1, RepL.take n h2⟩
theorem RepL.set {K : Frag} {A : AS} {H : Hp} {d : D} {v : V} (hd : Rep K A H d v) : ∀ {ds : List D} {vs : List V} (n : Nat), RepL K A H ds vs → RepL K A H (ds.set n d) (vs.set n v)
  | [], vs, n, h => by
    simp only [RepL] at h
    subst h
    simp [RepL]
  | d0 :: ds, vs, 0, h => by
    simp only [RepL] at h
    obtain ⟨w, r, rfl, h1, h2⟩ := h
    simp only [List.set_cons_zero, RepL]
    exact ⟨v, r, rfl, hd, h2⟩
  | d0 :: ds, vs, n + 1, h => by
    simp only [RepL] at h
    obtain ⟨w, r, rfl, h1, h2⟩ := h
    simp only [List.set_cons_succ, RepL]
    exact ⟨w, _, rfl, h1, RepL.set hd n h2⟩
theorem RepL.one {K : Frag} {A : AS} {H : Hp} {d : D} {v : V} (h : Rep K A H d v) : RepL K A H [d] [v] := by
  simp only [RepL]
  exact ⟨v, [], rfl, h, rfl⟩
theorem RepF.look {K : Frag} {A : AS} {H : Hp} {f : String} : ∀ {fs : List (String × D)} {vs : List (Str × V)}, RepF K A H fs vs →
    match fs.lookup f with | some d => ∃ v, vs.lookup (Str.ofString f) = some v ∧ Rep K A H d v | none => vs.lookup (Str.ofString f) = none
  | [], vs, h => by
    simp only [RepF] at h
    subst h
    rfl
  | (n, d) :: fs, vs, h => by
    simp only [RepF] at h
    obtain ⟨v, r, rfl, h1, h2⟩ := h
    by_cases e : f = n
    · subst e
      simp only [List.lookup_cons, beq_self_eq_true]
      exact ⟨v, rfl, h1⟩
    · have e2 : (Str.ofString f == Str.ofString n) = false := beq_eq_false_iff_ne.mpr fun q => e (ofS_inj q)
      have e3 : (f == n) = false := beq_eq_false_iff_ne.mpr e
      simp only [List.lookup_cons, e2, e3]
      exact RepF.look h2
theorem RepF.put {K : Frag} {A : AS} {H : Hp} {f : String} {d : D} {v : V} (hd : Rep K A H d v) : ∀ {fs : List (String × D)} {vs : List (Str × V)}, RepF K A H fs vs → RepF K A H (putF f d fs) (L2.putF (Str.ofString f) v vs)
  | [], vs, h => by
    simp only [RepF] at h
    subst h
    simp only [putF, L2.putF, RepF]
    exact ⟨v, [], rfl, hd, rfl⟩
  | (n, d0) :: fs, vs, h => by
    simp only [RepF] at h
    obtain ⟨w, r, rfl, h1, h2⟩ := h
    by_cases e : n = f
    · subst e
      simp only [putF, L2.putF, if_pos, RepF]
      exact ⟨v, r, rfl, hd, h2⟩
    · have e2 : ¬ Str.ofString n = Str.ofString f := fun q => e (ofS_inj q)
      simp only [putF, L2.putF, if_neg e, if_neg e2, RepF]
      exact ⟨w, _, rfl, h1, RepF.put hd h2⟩
theorem RepF.length {K : Frag} {A : AS} {H : Hp} : ∀ {fs : List (String × D)} {vs : List (Str × V)}, RepF K A H fs vs → fs.length = vs.length
  | [], vs, h => by
    simp only [RepF] at h
    subst h
    rfl
  | (n, d) :: fs, vs, h => by
    simp only [RepF] at h
    obtain ⟨v, r, rfl, h1, h2⟩ := h
    simp [RepF.length h2]
mutual
/-- data without lists: nothing to avoid -/
theorem Rep.imm {K : Frag} {A A' : AS} {H : Hp} : ∀ (d : D) (v : V), Py.imm d = true → Rep K A H d v → Rep K A' H d v
  | .non, _, _, h => h
  | .bl _, _, _, h => h
  | .int _, _, _, h => h
  | .str _, _, _, h => h
  | .tup xs, v, i, h => by
    simp only [Rep] at h ⊢
    obtain ⟨a, vs, e, q, r⟩ := h
    exact ⟨a, vs, e, q, RepL.imm xs vs (by simpa only [Py.imm] using i) r⟩
  | .lst xs, v, i, h => by simp [Py.imm] at i
  | .dic _ _, _, i, h => by simp [Py.imm] at i
  | .ins c fs, v, i, h => by simp [Py.imm] at i
theorem RepL.imm {K : Frag} {A A' : AS} {H : Hp} : ∀ (ds : List D) (vs : List V), Py.imm.immL ds = true → RepL K A H ds vs → RepL K A' H ds vs
  | [], vs, _, h => by
    simp only [RepL] at h ⊢
    exact h
  | d :: ds, vs, i, h => by
    simp only [RepL] at h ⊢
    obtain ⟨v, r, e, h1, h2⟩ := h
    have i2 : Py.imm d = true ∧ Py.imm.immL ds = true := by simpa only [Py.imm.immL, Bool.and_eq_true] using i
    exact ⟨v, r, e, Rep.imm d v i2.1 h1, RepL.imm ds r i2.2 h2⟩
end
/-! ### the frame -/
/-- what a name's own object at a holds -/
def OwnAt (K : Frag) (A : AS) (H : Hp) (a : Addr) : D → Prop
  | .lst ds => ∃ vs, H a = some (.lst vs) ∧ RepL K A H ds vs
  | .ins c fs => ∃ dx fvs, H a = some (.ins (ca K c) dx fvs) ∧ RepF K A H fs fvs
  | .dic t kvs => DicAt K A H a t kvs
  | _ => False
theorem OwnAt.move {K : Frag} {A A' : AS} {H H' : Hp} {a : Addr} {d : D} (m : Mv A H A' H') (k : H' a = H a) (h : OwnAt K A H a d) : OwnAt K A' H' a d := by
  cases d with
  | lst ds =>
    obtain ⟨vs, e, r⟩ := h
    exact ⟨vs, k.trans e, RepL.move m _ _ r⟩
  | ins c fs =>
    obtain ⟨dx, fvs, e, r⟩ := h
    exact ⟨dx, fvs, k.trans e, RepF.move m _ _ r⟩
  | dic t kvs => exact DicAt.move m k h
  | _ => exact h
theorem OwnAt.obj {K : Frag} {A : AS} {H : Hp} {a : Addr} {d : D} (h : OwnAt K A H a d) : ∃ u, H a = some u ∧ ¬ still u ∧ ∀ fvs, u ≠ .xd fvs := by
  cases d with
  | lst ds =>
    obtain ⟨vs, e, _⟩ := h
    exact ⟨_, e, fun z => z, fun _ z => nomatch z⟩
  | ins c fs =>
    obtain ⟨dx, fvs, e, _⟩ := h
    exact ⟨_, e, fun z => z, fun _ z => nomatch z⟩
  | dic t kvs =>
    rcases h with ⟨_, ks, e, _⟩ | ⟨_, es, e, _⟩
    · exact ⟨_, e, fun z => z, fun _ z => nomatch z⟩
    · exact ⟨_, e, fun z => z, fun _ z => nomatch z⟩
  | _ => exact h.elim
/-- what is owned is a value for those who leave it alone -/
theorem OwnAt.rep {K : Frag} {A A' : AS} {H : Hp} {a : Addr} {d : D} (m : Mv A H A' H) (n : ¬ A' a) (h : OwnAt K A H a d) : Rep K A' H d (.ref a) := by
  cases d with
  | lst ds =>
    obtain ⟨vs, e, r⟩ := h
    simp only [Rep]
    exact ⟨a, vs, rfl, n, .inl e, RepL.move m _ _ r⟩
  | ins c fs =>
    obtain ⟨dx, fvs, e, r⟩ := h
    simp only [Rep]
    exact ⟨a, dx, fvs, rfl, n, e, RepF.move m _ _ r⟩
  | dic t kvs => exact rep_dic.mpr ⟨a, rfl, n, DicAt.move m rfl h⟩
  | _ => exact h.elim
abbrev OW := Nat → Option Addr
def AO (A : AS) (O : OW) : AS := fun a => A a ∨ ∃ i, O i = some a
/-- the heap at the entry; the object that slot 0 owns throughout (an __init__'s self) -/
structure Base where
  hp : Hp
  px : Option Addr
/-- what is known of a caught error: the slot of its name, where it stands, where its dict stands, what that holds -/
structure Xh where
  i : Nat
  a : Addr
  da : Addr
  fs : List (String × D)
/-- which names own; in an except suite: the caught error -/
structure Ow where
  f : Nat → Bool
  x : Option Xh
instance : CoeFun Ow (fun _ => Nat → Bool) := ⟨Ow.f⟩
@[reducible] def Ow.off (o : Ow) : Ow := ⟨fun i => match o.x with | some q => i == q.i | none => false, o.x⟩
structure XAt (K : Frag) (A : AS) (H : Hp) (σ : L2.St) (e : Env) (f : Nat → Bool) (q : Xh) : Prop where
  own : f q.i = true
  slot : σ[q.i]? = some (some (.ref q.a))
  no : ∀ d, e[q.i]? ≠ some (some d)
  xd : ∃ fvs, H q.da = some (.xd fvs) ∧ RepF K A H q.fs fvs
def XFact (K : Frag) (A : AS) (H : Hp) (σ : L2.St) (e : Env) (o : Ow) : Prop := ∀ q, o.x = some q → XAt K A H σ e o.f q
theorem XFact.none {K : Frag} {A : AS} {H : Hp} {σ : L2.St} {e : Env} {o : Ow} (h : o.x = none) : XFact K A H σ e o := fun q z => by
  rw [h] at z
  cases z
theorem XFact.move {K : Frag} {A A' : AS} {H H' : Hp} {σ σ' : L2.St} {e e' : Env} {o : Ow} (m : Mv A H A' H') (k : ∀ da fvs, H da = some (.xd fvs) → H' da = some (.xd fvs)) (s : ∀ i, o i = true → (∀ d, e[i]? ≠ some (some d)) → σ'[i]? = σ[i]? ∧ ∀ d, e'[i]? ≠ some (some d))
    (h : XFact K A H σ e o) : XFact K A' H' σ' e' o := fun q hq => by
  obtain ⟨h1, h2, h3, fvs, h4, h5⟩ := h q hq
  obtain ⟨s1, s2⟩ := s q.i h1 h3
  exact ⟨h1, s1.trans h2, s2, fvs, k _ _ h4, RepF.move m _ _ h5⟩
theorem XFact.heap {K : Frag} {A A' : AS} {H H' : Hp} {σ : L2.St} {e : Env} {o : Ow} (m : Mv A H A' H') (k : ∀ da fvs, H da = some (.xd fvs) → H' da = some (.xd fvs)) (h : XFact K A H σ e o) : XFact K A' H' σ e o := h.move m k fun i _ n => ⟨rfl, n⟩
/-- the frame's slots hold these data; ow: the names that own what they hold; H0: the heap at the entry -/
structure ER (K : Frag) (A : AS) (H0 : Base) (ow : Ow) (O : OW) (σ : L2.St) (H : Hp) (e : Env) : Prop where
  len : σ.length = e.length
  a0 : ∀ a, A a → H a ≠ none
  same : Same H0.hp H
  vals : ∀ i d, e[i]? = some (some d) → ow i = false → ∃ v, σ[i]? = some (some v) ∧ Rep K (AO A O) H d v
  owns : ∀ i d, e[i]? = some (some d) → ow i = true → ∃ a, O i = some a ∧ σ[i]? = some (some (.ref a)) ∧ OwnAt K (AO A O) H a d
  fresh : ∀ i a, O i = some a → H0.hp a = none ∧ H a ≠ none ∧ ¬ A a
  inj : ∀ i j a, O i = some a → O j = some a → i = j
  pin : ∀ a, H0.px = some a → O 0 = some a
  exq : XFact K (AO A O) H σ e ow
section
variable {K : Frag} {A : AS} {H0 : Base} {ow : Ow} {O : OW} {σ : L2.St} {H H' : Hp} {e : Env}
theorem ne_none {H H' : Hp} {a : Addr} (s : Same H H') (h : H a ≠ none) : H' a ≠ none := by
  cases q : H a with
  | none => exact absurd q h
  | some o =>
    rw [s a o q]
    exact fun z => nomatch z
theorem ER.there (R : ER K A H0 ow O σ H e) : ∀ a, AO A O a → H a ≠ none := fun a h => by
  rcases h with h | ⟨i, h⟩
  · exact R.a0 a h
  · exact (R.fresh i a h).2.1
theorem ER.to (R : ER K A H0 ow O σ H e) (s : Same H H') : ER K A H0 ow O σ H' e :=
  ⟨R.len, fun a h => ne_none s (R.a0 a h), R.same.trans s, fun i d h1 h2 => let ⟨v, q, r⟩ := R.vals i d h1 h2; ⟨v, q, Rep.move (Mv.same s) d v r⟩,
    fun i d h1 h2 => let ⟨a, q, q2, r⟩ := R.owns i d h1 h2; ⟨a, q, q2, r.move (Mv.same s) (by
      cases z : H a with
      | none => exact absurd z (R.fresh i a q).2.1
      | some o => exact s a o z)⟩,
    fun i a h => ⟨(R.fresh i a h).1, ne_none s (R.fresh i a h).2.1, (R.fresh i a h).2.2⟩, R.inj, R.pin, R.exq.heap (Mv.same s) fun da fvs e => s _ _ e⟩
/-- a name takes a value -/
theorem ER.set (R : ER K A H0 ow O σ H e) {i : Nat} {d : D} {v : V} (hi : ow i = false) (r : Rep K (AO A O) H d v) : ER K A H0 ow O (σ.set i (some v)) H (e.set i (some d)) := by
  refine ⟨by simp [R.len], R.a0, R.same, fun j d' h1 h2 => ?_, fun j d' h1 h2 => ?_, R.fresh, R.inj, R.pin, R.exq.move Mv.refl (fun _ _ e => e) fun j hj n => ?_⟩
  rotate_right
  · have hne : i ≠ j := fun z => by
      rw [z, hj] at hi
      cases hi
    rw [List.getElem?_set_ne hne, List.getElem?_set_ne hne]
    exact ⟨rfl, n⟩
  · by_cases hj : i = j
    · subst hj
      have hl : i < e.length := by
        have := (List.getElem?_eq_some_iff.mp h1).1
        simpa using this
      rw [List.getElem?_set_self hl] at h1
      cases h1
      exact ⟨v, List.getElem?_set_self (by rw [R.len]; exact hl), r⟩
    · rw [List.getElem?_set_ne hj] at h1
      rw [List.getElem?_set_ne hj]
      exact R.vals j d' h1 h2
  · have hj : i ≠ j := fun z => by
      subst z
      rw [hi] at h2
      cases h2
    rw [List.getElem?_set_ne hj] at h1
    rw [List.getElem?_set_ne hj]
    exact R.owns j d' h1 h2
/-- names forgotten -/
theorem ER.sub {e' : Env} {σ' : L2.St} (R : ER K A H0 ow O σ H e) (hl : σ'.length = e'.length) (h : ∀ (i : Nat) (d : D), e'[i]? = some (some d) → e[i]? = some (some d) ∧ σ'[i]? = σ[i]?) (hx : ∀ q : Xh, ow.x = some q → σ'[q.i]? = σ[q.i]?) : ER K A H0 ow O σ' H e' :=
  ⟨hl, R.a0, R.same, fun i d h1 h2 => by rw [(h i d h1).2]; exact R.vals i d (h i d h1).1 h2, fun i d h1 h2 => by rw [(h i d h1).2]; exact R.owns i d (h i d h1).1 h2, R.fresh, R.inj, R.pin, fun q hq => by
    obtain ⟨h1, h2, h3, h4⟩ := R.exq q hq
    exact ⟨h1, (hx q hq).trans h2, fun d z => h3 d (h _ d z).1, h4⟩⟩
end
theorem wipe_env (vs : List Nat) (e : Env) (i : Nat) (d : D) (h : (wipe e vs)[i]? = some (some d)) : e[i]? = some (some d) ∧ i ∉ vs := by
  induction vs with
  | nil => exact ⟨h, by simp⟩
  | cons j r ih =>
    unfold wipe at h
    by_cases hj : j = i
    · subst hj
      by_cases hl : j < (wipe e r).length
      · rw [List.getElem?_set_self hl] at h
        cases h
      · rw [List.getElem?_eq_none (by simp; omega)] at h
        cases h
    · rw [List.getElem?_set_ne hj] at h
      obtain ⟨a, b⟩ := ih h
      exact ⟨a, by simp [b, Ne.symm hj]⟩
theorem wipe_len (vs : List Nat) (e : Env) : (wipe e vs).length = e.length := by
  induction vs with
  | nil => rfl
  | cons j r ih => unfold wipe; simp [ih]
theorem ER.wipe {K : Frag} {A : AS} {H0 : Base} {ow : Ow} {O : OW} {σ : L2.St} {H : Hp} {e : Env} (R : ER K A H0 ow O σ H e) (vs : List Nat) (hx : ow.x = none) : ER K A H0 ow O (L2.wipe σ vs) H (Py.wipe e vs) :=
  R.sub (by rw [L2.wipe_length, wipe_len, R.len]) (fun i d h => ⟨(wipe_env vs e i d h).1, L2.wipe_out (wipe_env vs e i d h).2⟩) fun q hq => by
    rw [hx] at hq
    cases hq
/-! ### readings -/
def Out {α : Type} (r : Res α) (good : α → Prop) (bad : String → List (String × D) → Prop) : Prop := match r with
  | .ok a => good a
  | .exc c fs => bad c fs
  | .stuck => False
theorem Out.bind {α β : Type} {r : Res α} {f : α → Res β} {good : β → Prop} {bad : String → List (String × D) → Prop} (h : Out (r >>= f) good bad) : Out r (fun a => Out (f a) good bad) bad := by
  cases r with
  | ok a => exact h
  | exc c fs => exact h
  | stuck => exact h
theorem Out.imp {α : Type} {r : Res α} {good good' : α → Prop} {bad bad' : String → List (String × D) → Prop} (h : Out r good bad) (hg : ∀ a, r = .ok a → good a → good' a) (hb : ∀ c fs, bad c fs → bad' c fs) : Out r good' bad' := by
  cases r with
  | ok a => exact hg a rfl h
  | exc c fs => exact hb c fs h
  | stuck => exact h
theorem Out.good {α : Type} {r : Res α} {good good' : α → Prop} {bad : String → List (String × D) → Prop} (h : Out r good bad) (hg : ∀ a, good a → good' a) : Out r good' bad := h.imp (fun a _ => hg a) fun _ _ x => x
/-- what an exception must show that leaves an expression -/
def badE (K : Frag) (W : WX) (A : AS) (O : OW) (σ : L2.St) (H : Hp) (c : String) (fs : List (String × D)) : Prop :=
  ∀ da H' fvs, Same H H' → H' da = some (.xd fvs) → RepF K (AO A O) H' fs fvs → W (.ref (ca K c)) (some da) σ H'
theorem badE.to {K : Frag} {W : WX} {A : AS} {O : OW} {σ : L2.St} {H H1 : Hp} (s : Same H H1) {c : String} {fs : List (String × D)} (h : badE K W A O σ H c fs) : badE K W A O σ H1 c fs := fun da H' fvs s' => h da H' fvs (s.trans s')
theorem Out.to {K : Frag} {W : WX} {A : AS} {O : OW} {σ : L2.St} {H H1 : Hp} {α : Type} {r : Res α} {good : α → Prop} (s : Same H H1) (h : Out r good (badE K W A O σ H)) : Out r good (badE K W A O σ H1) := h.imp (fun _ _ x => x) fun _ _ x => x.to s
/-- a value that may be a name's own list or object: what is within it is clean -/
def RepW (K : Frag) (A : AS) (H : Hp) : D → V → Prop
  | .lst xs, v => ∃ a vs, v = .ref a ∧ Rd H a (.lst vs) ∧ RepL K A H xs vs
  | .ins c fs, v => ∃ a dx fvs, v = .ref a ∧ H a = some (.ins (ca K c) dx fvs) ∧ RepF K A H fs fvs
  | .dic t kvs, v => ∃ a, v = .ref a ∧ DicAt K A H a t kvs
  | d, v => Rep K A H d v
theorem RepW.of {K : Frag} {A : AS} {H : Hp} {d : D} {v : V} (h : Rep K A H d v) : RepW K A H d v := by
  cases d with
  | lst xs =>
    simp only [Rep] at h
    obtain ⟨a, vs, e, _, q, r⟩ := h
    exact ⟨a, vs, e, q, r⟩
  | ins c fs =>
    simp only [Rep] at h
    obtain ⟨a, dx, fvs, e, _, q, r⟩ := h
    exact ⟨a, dx, fvs, e, q, r⟩
  | dic t kvs =>
    obtain ⟨a, e, _, q⟩ := rep_dic.mp h
    exact ⟨a, e, q⟩
  | _ => exact h
theorem RepW.none {K : Frag} {A : AS} {H : Hp} {d : D} {v : V} (h : RepW K A H d v) : Rep K (fun _ => False) H d v := by
  have z : Mv A H (fun _ => False) H := Mv.less fun _ x => x.elim
  cases d with
  | lst xs =>
    obtain ⟨a, vs, e, q, r⟩ := h
    simp only [Rep]
    exact ⟨a, vs, e, fun x => x, q, RepL.move z _ _ r⟩
  | ins c fs =>
    obtain ⟨a, dx, fvs, e, q, r⟩ := h
    simp only [Rep]
    exact ⟨a, dx, fvs, e, fun x => x, q, RepF.move z _ _ r⟩
  | dic t kvs =>
    obtain ⟨a, e, q⟩ := h
    exact rep_dic.mpr ⟨a, e, fun x => x, q.move z rfl⟩
  | _ => exact Rep.move z _ _ h
/-- a relation between data and values, under what is to be avoided -/
abbrev RR := AS → Hp → D → V → Prop
/-- an expression that computes m -/
def tG (R : RR) (K : Frag) (W : WX) (ow : Ow) (m : EM) : TE := fun σ H Q => ∃ A H0 O e, ER K A H0 ow O σ H e ∧
  Out (m e) (fun d => ∀ v H', Same H H' → R (AO A O) H' d v → Q v H') (badE K W A O σ H)
/-- .. clean -/
abbrev tE (K : Frag) (W : WX) (ow : Ow) (m : EM) : TE := tG (Rep K) K W ow m
/-- .. to be read only -/
abbrev tW (K : Frag) (W : WX) (ow : Ow) (m : EM) : TE := tG (RepW K) K W ow m
/-- .. a new list -/
def tF (K : Frag) (W : WX) (ow : Ow) (m : EM) : TE := fun σ H Q => ∃ A H0 O e, ER K A H0 ow O σ H e ∧
  Out (m e) (fun d => ∀ a H', H a = none → Same H H' → OwnAt K (fun b => AO A O b ∨ b = a) H' a d → Q (.ref a) H') (badE K W A O σ H)
def tT (K : Frag) (W : WX) (ow : Ow) (m : TM) : TT := fun σ H Q => ∃ A H0 O e, ER K A H0 ow O σ H e ∧
  Out (m e) (fun b => ∀ H', Same H H' → Q b H') (badE K W A O σ H)
def tA (R : RR) (K : Frag) (W : WX) (ow : Ow) (m : AM) : TA := fun σ H Q => ∃ A H0 O e, ER K A H0 ow O σ H e ∧
  Out (m e) (fun ds => ∀ vs H', Same H H' → Paired (fun v d => R (AO A O) H' d v) vs ds → Q vs H') (badE K W A O σ H)
section
variable {X : Cx} {K : Frag} {W : WX} {A : AS} {H0 : Base} {ow : Ow}
theorem PE.of {e : Expr} {t t' : TE} (h : PE X e t) (k : ∀ σ H Q, t' σ H Q → t σ H Q) : PE X e t' := ⟨fun pins s σ H Q I q => h.run pins s σ H Q I (k σ H Q q)⟩
theorem PT.of {e : Expr} {t t' : TT} (h : PT X e t) (k : ∀ σ H Q, t' σ H Q → t σ H Q) : PT X e t' := ⟨fun pins s σ H Q I q => h.run pins s σ H Q I (k σ H Q q)⟩
theorem PW.of {e : Expr} {t t' : TT} (h : PW X e t) (k : ∀ σ H Q, t' σ H Q → t σ H Q) : PW X e t' := ⟨fun wh pins s σ H Q I q => h.run wh pins s σ H Q I (k σ H Q q)⟩
theorem PA.of {e : List Expr} {t t' : TA} (h : PA X e t) (k : ∀ σ H Q, t' σ H Q → t σ H Q) : PA X e t' := ⟨fun pos pins s σ H Q I q => h.run pos pins s σ H Q I (k σ H Q q)⟩
theorem PS.of {e : Stmt} {t t' : TS} (h : PS X e t) (k : ∀ D σ H, t' D σ H → t D σ H) : PS X e t' := ⟨fun pins s σ H D I q => h.run pins s σ H D I (k D σ H q)⟩
theorem PSs.of {e : List Stmt} {t t' : TS} (h : PSs X e t) (k : ∀ D σ H, t' D σ H → t D σ H) : PSs X e t' := ⟨fun pins s σ H D I q => h.run pins s σ H D I (k D σ H q)⟩
theorem w_of {e : Expr} {m : EM} (h : PE X e (tE K W ow m)) : PE X e (tW K W ow m) := PE.of h fun σ H Q ⟨A, H0, O, en, R, q⟩ => ⟨A, H0, O, en, R, q.good fun d k v H' s r => k v H' s (RepW.of r)⟩
theorem e_of {e : Expr} {m : EM} (h : PE X e (tF K W ow m)) : PE X e (tE K W ow m) := PE.of h fun σ H Q ⟨A, H0, O, en, R, q⟩ => ⟨A, H0, O, en, R, q.good fun d k a H' n s r => by
  refine k (.ref a) H' s ?_
  have na : ¬ AO A O a := fun z => R.there a z n
  have mv : Mv (fun b => AO A O b ∨ b = a) H' (AO A O) H' := Mv.less fun b x => .inl x
  exact r.rep mv na⟩
/-! names, constants -/
theorem x_var {i : Nat} {e : Expr} (h : PE X e (tVar i)) (hi : ow i = false) : PE X e (tE K W ow (var i)) := PE.of h fun σ H Q ⟨A, H0, O, en, R, q⟩ => by
  unfold var at q
  split at q
  · rename_i d hd
    obtain ⟨v, e1, r⟩ := R.vals i d hd hi
    exact ⟨v, e1, q v H (Same.refl H) r⟩
  · exact q.elim
/-- a name's own list, read -/
theorem x_own {i : Nat} {e : Expr} (h : PE X e (tVar i)) : PE X e (tW K W ow (var i)) := PE.of h fun σ H Q ⟨A, H0, O, en, R, q⟩ => by
  unfold var at q
  split at q
  · rename_i d hd
    cases hi : ow i with
    | false =>
      obtain ⟨v, e1, r⟩ := R.vals i d hd hi
      exact ⟨v, e1, q v H (Same.refl H) (RepW.of r)⟩
    | true =>
      obtain ⟨a, _, e1, r⟩ := R.owns i d hd hi
      refine ⟨.ref a, e1, q _ H (Same.refl H) ?_⟩
      cases d with
      | lst ds =>
        obtain ⟨vs, e2, r⟩ := r
        exact ⟨a, vs, rfl, .inl e2, r⟩
      | ins c fs =>
        obtain ⟨dx, fvs, e2, r⟩ := r
        exact ⟨a, dx, fvs, rfl, e2, r⟩
      | dic t kvs => exact ⟨a, rfl, r⟩
      | _ => exact r.elim
  · exact q.elim
/-- data that need no object -/
def flat : D → Option V
  | .non => some .non
  | .bl b => some (.bl b)
  | .int i => some (.int i)
  | .str s => some (.str (Str.ofString s))
  | _ => none
theorem flat_rep {d : D} {v : V} (h : flat d = some v) (A : AS) (H : Hp) : Rep K A H d v := by
  cases d <;> simp only [flat, Option.some.injEq] at h <;> first | exact h.symm | cases h
theorem x_cst {e : Expr} {d : D} {v : V} (h : PE X e (tC v)) (hf : flat d = some v) : PE X e (tE K W ow (cst d)) := PE.of h fun σ H Q ⟨A, H0, O, en, R, q⟩ => q v H (Same.refl H) (flat_rep hf _ _)
theorem x_int {i j pos} : PE X (.Constant (.int i) j pos) (tE K W ow (cst (.int i))) := x_cst pe_int rfl
theorem x_bl {i j pos} : PE X (.Constant (.bool i) j pos) (tE K W ow (cst (.bl i))) := x_cst pe_bl rfl
theorem x_non {j pos} : PE X (.Constant .none j pos) (tE K W ow (cst .non)) := x_cst pe_non rfl
theorem x_str {s : String} {j pos} : PE X (.Constant (.str (Str.ofString s)) j pos) (tE K W ow (cst (.str s))) := x_cst pe_str rfl
end
end Py
/-! Dicts: their keys in the heap, look-ups, stores. -/
namespace Py
open PySem L2
/-! ### keys -/
mutual
theorem hk_nk : ∀ (n : Nat) (d : D), hk n d = true → ∃ k, nk d = some k ∧ k.depth ≤ n
  | n, .non, _ => ⟨.none, by simp [nk], by simp [NestedKey.depth]⟩
  | n, .bl b, _ => ⟨.num (b2i b), by simp [nk], by simp [NestedKey.depth]⟩
  | n, .int i, _ => ⟨.num i, by simp [nk], by simp [NestedKey.depth]⟩
  | n + 1, .tup xs, h => by
    simp only [hk] at h
    obtain ⟨ks, h1, h2⟩ := hk_nkL n xs h
    exact ⟨.tup ks, by simp [nk, h1], by simp only [NestedKey.depth]; omega⟩
  | 0, .tup xs, h => by simp [hk] at h
  | n, .str _, h => by cases n <;> simp [hk] at h
  | n, .lst _, h => by cases n <;> simp [hk] at h
  | n, .dic _ _, h => by cases n <;> simp [hk] at h
  | n, .ins _ _, h => by cases n <;> simp [hk] at h
theorem hk_nkL : ∀ (n : Nat) (ds : List D), ds.all (hk n) = true → ∃ ks, nkL ds = some ks ∧ NestedKey.depthAll ks ≤ n
  | n, [], _ => ⟨[], by simp [nkL], by simp [NestedKey.depthAll]⟩
  | n, d :: ds, h => by
    simp only [List.all_cons, Bool.and_eq_true] at h
    obtain ⟨k, h1, h2⟩ := hk_nk n d h.1
    obtain ⟨ks, h3, h4⟩ := hk_nkL n ds h.2
    exact ⟨k :: ks, by simp [nkL, h1, h3], by simp only [NestedKey.depthAll]; omega⟩
end
theorem nkL_cons {d : D} {ds : List D} {ks : List NestedKey} (h : nkL (d :: ds) = some ks) : ∃ k r, nk d = some k ∧ nkL ds = some r ∧ ks = k :: r := by
  simp only [nkL] at h
  split at h
  · rename_i k r e1 e2
    exact ⟨k, r, e1, e2, (Option.some.inj h).symm⟩
  · cases h
mutual
theorem nk_hash (w w' : World) : ∀ (d : D) (k : NestedKey), nk d = some k → k.hash w = k.hash w'
  | .non, k, h => by simp only [nk, Option.some.injEq] at h; subst h; simp [NestedKey.hash]
  | .bl b, k, h => by simp only [nk, Option.some.injEq] at h; subst h; simp [NestedKey.hash]
  | .int b, k, h => by simp only [nk, Option.some.injEq] at h; subst h; simp [NestedKey.hash]
  | .tup xs, k, h => by
    simp only [nk, Option.map_eq_some_iff] at h
    obtain ⟨ks, h1, rfl⟩ := h
    simp only [NestedKey.hash]
    rw [nk_hashL w w' xs ks h1]
  | .str _, k, h => by simp [nk] at h
  | .lst _, k, h => by simp [nk] at h
  | .dic _ _, k, h => by simp [nk] at h
  | .ins _ _, k, h => by simp [nk] at h
theorem nk_hashL (w w' : World) : ∀ (ds : List D) (ks : List NestedKey), nkL ds = some ks → NestedKey.hashes w ks = NestedKey.hashes w' ks
  | [], ks, h => by simp only [nkL, Option.some.injEq] at h; subst h; simp [NestedKey.hashes]
  | d :: ds, ks, h => by
    obtain ⟨k, r, h1, h2, rfl⟩ := nkL_cons h
    simp only [NestedKey.hashes]
    rw [nk_hash w w' d k h1, nk_hashL w w' ds r h2]
end
mutual
theorem nk_eqv : ∀ (d e : D) (k j : NestedKey), nk d = some k → nk e = some j → eqv d e = NestedKey.beq k j
  | .non, e, k, j, h, h' => by
    simp only [nk, Option.some.injEq] at h
    subst h
    cases e <;> simp only [nk, Option.some.injEq, reduceCtorEq, Option.map_eq_some_iff] at h' <;> first | (subst h'; simp [eqv, NestedKey.beq]) | (obtain ⟨_, _, rfl⟩ := h'; simp [eqv, NestedKey.beq])
  | .bl b, e, k, j, h, h' => by
    simp only [nk, Option.some.injEq] at h
    subst h
    cases e <;> simp only [nk, Option.some.injEq, reduceCtorEq, Option.map_eq_some_iff] at h' <;> first | (subst h'; simp [eqv, NestedKey.beq]; try rfl) | (obtain ⟨_, _, rfl⟩ := h'; simp [eqv, NestedKey.beq])
    rename_i c
    cases b <;> cases c <;> simp [b2i]
  | .int i, e, k, j, h, h' => by
    simp only [nk, Option.some.injEq] at h
    subst h
    cases e <;> simp only [nk, Option.some.injEq, reduceCtorEq, Option.map_eq_some_iff] at h' <;> first | (subst h'; simp [eqv, NestedKey.beq]; try rfl) | (obtain ⟨_, _, rfl⟩ := h'; simp [eqv, NestedKey.beq])
  | .tup xs, e, k, j, h, h' => by
    simp only [nk, Option.map_eq_some_iff] at h
    obtain ⟨ks, h1, rfl⟩ := h
    cases e <;> simp only [nk, Option.some.injEq, reduceCtorEq, Option.map_eq_some_iff] at h' <;> first | (subst h'; simp [eqv, NestedKey.beq]; done) | skip
    rename_i ys
    obtain ⟨js, h2, rfl⟩ := h'
    simp only [eqv, NestedKey.beq]
    exact nk_eqvL xs ys ks js h1 h2
  | .str _, e, k, j, h, _ => by simp [nk] at h
  | .lst _, e, k, j, h, _ => by simp [nk] at h
  | .dic _ _, e, k, j, h, _ => by simp [nk] at h
  | .ins _ _, e, k, j, h, _ => by simp [nk] at h
theorem nk_eqvL : ∀ (ds es : List D) (ks js : List NestedKey), nkL ds = some ks → nkL es = some js → eqv.eqvL ds es = NestedKey.beqAll ks js
  | [], [], ks, js, h, h' => by
    simp only [nkL, Option.some.injEq] at h h'
    subst h h'
    simp [eqv.eqvL, NestedKey.beqAll]
  | [], e :: es, ks, js, h, h' => by
    obtain ⟨k, r, h1, h2, rfl⟩ := nkL_cons h'
    simp only [nkL, Option.some.injEq] at h
    subst h
    simp [eqv.eqvL, NestedKey.beqAll]
  | d :: ds, [], ks, js, h, h' => by
    obtain ⟨k, r, h1, h2, rfl⟩ := nkL_cons h
    simp only [nkL, Option.some.injEq] at h'
    subst h'
    simp [eqv.eqvL, NestedKey.beqAll]
  | d :: ds, e :: es, ks, js, h, h' => by
    obtain ⟨k, r, h1, h2, rfl⟩ := nkL_cons h
    obtain ⟨k', r', h1', h2', rfl⟩ := nkL_cons h'
    simp only [eqv.eqvL, NestedKey.beqAll]
    rw [nk_eqv d e k k' h1 h1', nk_eqvL ds es r r' h2 h2']
end
theorem nk_eq {d e : D} {k j : NestedKey} (h : nk d = some k) (h' : nk e = some j) : eqv d e = decide (k = j) := by
  rw [NestedKey.decide_eq]
  exact nk_eqv d e k j h h'
theorem keyT {k : D} (h : keyOk true k = true) : ∃ c, nk k = some c ∧ c.depth ≤ 8 := by
  cases k <;> simp only [keyOk, reduceCtorEq] at h <;> first | cases h | exact hk_nk 8 _ h
theorem keyK {k : D} (h : keyOk false k = true) : ∃ c, kvK k = some c := by
  cases k <;> first | exact ⟨_, rfl⟩ | simp [keyOk] at h
theorem kv_eq {d e : D} {k j : Key} (h : kvK d = some k) (h' : kvK e = some j) : eqv d e = decide (k = j) := by
  cases d <;> simp only [kvK, Option.some.injEq, reduceCtorEq] at h <;> subst h <;> cases e <;> simp only [kvK, Option.some.injEq, reduceCtorEq] at h' <;> subst h' <;> simp [eqv]
  · rename_i a b
    by_cases q : a = b <;> simp [q]
  · rename_i a b
    by_cases q : a = b
    · simp [q]
    · have q2 : ¬ Str.ofString a = Str.ofString b := fun z => q (ofS_inj z)
      simp [q, q2]
theorem kv_rep {K : Frag} {A : AS} {H : Hp} {d : D} {k : Key} {v : V} (h : kvK d = some k) (r : Rep K A H d v) : v = kV k := by
  cases d <;> simp only [kvK, Option.some.injEq, reduceCtorEq] at h <;> subst h <;> simp only [Rep] at r <;> exact r
/-! ### in the heap -/
section
variable {X : Cx} {pins : List (Addr × Obj)} {σ : L2.St} {H : Hp} {s : Shared} {A : AS} {a : Addr}
mutual
theorem nest_of (I : Inv X pins σ H s) : ∀ (d : D) (v : V) (u : Value) (k : NestedKey), nk d = some k → Rep X.K A H d v → RelV v u → NestedIs s.heap k u
  | .non, v, u, k, h, r, e => by
    simp only [nk, Option.some.injEq] at h
    simp only [Rep] at r
    subst h r
    cases (show u = Value.none from e)
    exact .none
  | .bl b, v, u, k, h, r, e => by
    simp only [nk, Option.some.injEq] at h
    simp only [Rep] at r
    subst h r
    cases (show u = Value.bool b from e)
    exact .bool (by cases b <;> rfl)
  | .int i, v, u, k, h, r, e => by
    simp only [nk, Option.some.injEq] at h
    simp only [Rep] at r
    subst h r
    obtain ⟨t, rfl⟩ := (show ∃ t, u = Value.int i t from e)
    exact .int _ _
  | .tup xs, v, u, k, h, r, e => by
    simp only [nk, Option.map_eq_some_iff] at h
    obtain ⟨ks, h1, rfl⟩ := h
    simp only [Rep] at r
    obtain ⟨b, vs, rfl, q, r⟩ := r
    cases (show u = Value.ref b from e)
    obtain ⟨its, rv, ⟨o, g1, g2, n, g3⟩, _⟩ := I.tuple q
    exact .tup g1 g2 g3 (by simpa using nest_ofL I xs vs its ks h1 r rv)
  | .str _, v, u, k, h, _, _ => by simp [nk] at h
  | .lst _, v, u, k, h, _, _ => by simp [nk] at h
  | .dic _ _, v, u, k, h, _, _ => by simp [nk] at h
  | .ins _ _, v, u, k, h, _, _ => by simp [nk] at h
theorem nest_ofL (I : Inv X pins σ H s) : ∀ (ds : List D) (vs : List V) (us : List Value) (ks : List NestedKey), nkL ds = some ks → RepL X.K A H ds vs → Vals vs us → NestedAll s.heap ks us
  | [], vs, us, ks, h, r, e => by
    simp only [nkL, Option.some.injEq] at h
    simp only [RepL] at r
    subst h r
    cases e
    exact .nil
  | d :: ds, vs, us, ks, h, r, e => by
    obtain ⟨k, r', h1, h2, rfl⟩ := nkL_cons h
    simp only [RepL] at r
    obtain ⟨v, rs, rfl, q1, q2⟩ := r
    cases e with
    | cons e1 e2 => exact .cons (nest_of I d v _ k h1 q1 e1) (nest_ofL I ds rs _ r' h2 q2 e2)
end
theorem is_of (I : Inv X pins σ H s) {k : D} {c : NestedKey} {b : Addr} (h : keyOk true k = true) (hc : nk k = some c) (r : Rep X.K A H k (.ref b)) : (nestedKind X.prog X.w).is s.heap c b := by
  obtain ⟨c', h1, h2⟩ := keyT h
  rw [hc] at h1
  cases h1
  exact ⟨nest_of I k _ _ c hc r rfl, h2⟩
/-! ### look-ups -/
abbrev PT3 : List (NestedKey × Addr × V) → List (NestedKey × Addr × Value) → Prop := Paired fun p q => p.1 = q.1 ∧ p.2.1 = q.2.1 ∧ RelV p.2.2 q.2.2
theorem find_T {K : Frag} {k : D} {c : NestedKey} (hc : nk k = some c) : ∀ {kvs : List (D × D)} {es : List (NestedKey × Addr × V)} {xs : List (NestedKey × Addr × Value)}, RepT K A H kvs es → PT3 es xs →
    match find k kvs with | some d => ∃ b u v, atKey xs c = some (b, u) ∧ RelV v u ∧ Rep K A H d v | none => atKey xs c = none
  | [], es, xs, r, p => by
    simp only [RepT] at r
    subst r
    cases p
    rfl
  | (k0, d0) :: kvs, es, xs, r, p => by
    simp only [RepT] at r
    obtain ⟨c0, b, v, q, rfl, ⟨h0, _⟩, h1, h2, h3⟩ := r
    cases p with
    | @cons _ y _ ys hp t =>
      obtain ⟨p1, p2, p3⟩ := hp
      simp only [find, nk_eq h0 hc]
      have p1' : c0 = y.1 := p1
      by_cases e : c0 = c
      · rw [decide_eq_true e]
        refine ⟨y.2.1, y.2.2, v, ?_, p3, h2⟩
        unfold atKey
        rw [List.find?_cons_of_pos (by simpa using p1'.symm.trans e)]
        rfl
      · rw [decide_eq_false e]
        have e2 : atKey (y :: ys) c = atKey ys c := by
          unfold atKey
          rw [List.find?_cons_of_neg (by simpa using fun z => e (p1'.trans z))]
        rw [e2]
        exact find_T hc h3 t
theorem find_K {K : Frag} {k : D} {c : Key} (hc : kvK k = some c) : ∀ {kvs : List (D × D)} {ks : List (Key × V)}, RepK K A H kvs ks →
    match find k kvs with | some d => ∃ v, valV ks c = some v ∧ Rep K A H d v | none => valV ks c = none
  | [], ks, r => by
    simp only [RepK] at r
    subst r
    rfl
  | (k0, d0) :: kvs, ks, r => by
    simp only [RepK] at r
    obtain ⟨c0, v, q, rfl, h0, h2, h3⟩ := r
    simp only [find, kv_eq h0 hc]
    by_cases e : c0 = c
    · rw [decide_eq_true e, valV_pos (p := (c0, v)) e]
      exact ⟨v, rfl, h2⟩
    · rw [decide_eq_false e, valV_neg (p := (c0, v)) e]
      exact find_K hc h3
theorem dic_rd (I : Inv X pins σ H s) {es : List (NestedKey × Addr × V)} {kvs : List (D × D)} (e : H a = some (dicT a es)) (r : RepT X.K A H kvs es) : es.length ≤ sizeLine ∧ (a == sysModules) = false ∧ ∃ xs, PT3 es xs ∧ s.heap.DictOfH (nestedKind X.prog X.w) a xs ∧
    ∃ o en ep, s.heap.get? a = some o ∧ o.ExactDict ∧ o.data = .dict en ep ∧ (∀ w : World, en.toList = xs.map (entW w)) ∧ (xs.map (·.1)).Nodup := by
  obtain ⟨⟨h1, h2, xs, h3, o, en, ep, g1, g2, g3, g4, g5⟩, _, _⟩ := (show ObjOk X.prog X.w H s.heap a (dicT a es) from I.hok a _ e)
  refine ⟨h2, h1, xs, h3, ⟨o, en, ep, g1, g2, g3, g4 X.w, ?_, g5⟩, o, en, ep, g1, g2, g3, g4, g5⟩
  have all : ∀ {kvs : List (D × D)} {es : List (NestedKey × Addr × V)} {xs : List (NestedKey × Addr × Value)}, RepT X.K A H kvs es → PT3 es xs → ∀ x ∈ xs, (nestedKind X.prog X.w).is s.heap x.1 x.2.1 := by
    intro kvs
    induction kvs with
    | nil =>
      intro es xs r p
      simp only [RepT] at r
      subst r
      cases p
      intro x hx
      cases hx
    | cons kd kvs ih =>
      intro es xs r p
      obtain ⟨k0, d0⟩ := kd
      simp only [RepT] at r
      obtain ⟨c0, b, v, q, rfl, ⟨h0, hk0⟩, h1, h2, h3⟩ := r
      cases p with
      | cons hp t =>
        obtain ⟨p1, p2, p3⟩ := hp
        intro x hx
        rcases List.mem_cons.mp hx with z | hx
        · subst z
          have := is_of I hk0 h0 h1
          have p1' : c0 = x.1 := p1
          have p2' : b = x.2.1 := p2
          rw [p1', p2'] at this
          exact this
        · exact ih h3 t x hx
  exact all r h3
theorem dic_type (I : Inv X pins σ H s) {t : Bool} {kvs : List (D × D)} (g : DicAt X.K A H a t kvs) : s.TypeIs (.ref a) "dict" := by
  rcases g with ⟨rfl, ks, e, r⟩ | ⟨rfl, es, e, r⟩
  · obtain ⟨_, _, vs, _, dd⟩ := dk_of I.hok e
    exact dd.typeIs
  · obtain ⟨z, hsm, xs, rel, dd, _⟩ := dic_rd I e r
    exact dd.typeIs
/-- len(d) -/
theorem dic_len {B : Around} {E : Value → Shared → Prop} {t : Bool} {kvs : List (D × D)} {Q : Value → Shared → Prop} (I : Inv X pins σ H s) (g : DicAt X.K A H a t kvs) (hl : ∀ {kvs : List (D × D)} {es : List (NestedKey × Addr × V)}, RepT X.K A H kvs es → es.length = kvs.length) (hl2 : ∀ {kvs : List (D × D)} {es : List (Key × V)}, RepK X.K A H kvs es → es.length = kvs.length)
    (h : ∀ t' s', Inv X pins σ H s' → Q (.int kvs.length t') s') : wpAny (model X.prog X.w) B (PySem.call (.builtin "len") [.ref a]) Q E s := by
  rcases g with ⟨rfl, ks, e, r⟩ | ⟨rfl, es, e, r⟩
  · refine d_len I (.inl e) fun t' s' I' => ?_
    rw [hl2 r]
    exact h t' s' I'
  · obtain ⟨z, hsm, xs, rel, dd, _⟩ := dic_rd I e r
    have hm : s.heap.DictKeyed (nestedKind X.prog X.w) a (pairsH xs) := ⟨xs, dd, rfl⟩
    have h1 : (pairsH xs).length = kvs.length := by rw [pairsH_length, ← Paired.length rel, hl r]
    refine PyProof.Rows.call_len_slot (n := (pairsH xs).length) hm.typeIs F.slot_dict_len (fun Q' hq => len_keyed hsm hm hq) (by omega) ?_ ?_
    · have hz := sizeLine_eq
      have := Paired.length rel
      rw [pairsH_length]
      omega
    · rw [h1]
      exact h _ _ ((I.tok _).tok _)
/-- d[k], there -/
theorem dic_get {B : Around} {E : Value → Shared → Prop} {t : Bool} {kvs : List (D × D)} {k d : D} {y : V} {u : Value} {Q : Value → Shared → Prop} (hu : B.units + 16 < cLine) (I : Inv X pins σ H s) (g : DicAt X.K A H a t kvs) (hk : keyOk t k = true) (rk : Rep X.K A H k y) (ry : RelV y u)
    (hf : find k kvs = some d) (h : ∀ v w' s', Inv X pins σ H s' → RelV v w' → Rep X.K A H d v → Q w' s') : wpAny (model X.prog X.w) B (getItem (.ref a) u) Q E s := by
  rcases g with ⟨rfl, ks, e, r⟩ | ⟨rfl, es, e, r⟩
  · obtain ⟨c, hc⟩ := keyK hk
    have q := find_K hc r
    rw [hf] at q
    obtain ⟨v, hv, rv⟩ := q
    have hy := kv_rep hc rk
    subst hy
    refine d_getItem (by omega) I (hv ▸ DGet.k e) ry fun w' s' I' r' => h v w' s' I' r' rv
  · obtain ⟨c, hc, hd⟩ := keyT hk
    obtain ⟨z, hsm, xs, rel, dd, _⟩ := dic_rd I e r
    have q := find_T hc r rel
    rw [hf] at q
    obtain ⟨b, u', v, hat, rv, rd⟩ := q
    have hk' := hk
    cases k with
    | tup xs' =>
      simp only [Rep] at rk
      obtain ⟨b', vs, rfl, q1, q2⟩ := rk
      cases (show u = Value.ref b' from ry)
      refine wpAny_getItem_heap (by show B.units + 1 + 8 < cLine; omega) (is_of (A := A) I hk' hc (by simp only [Rep]; exact ⟨b', vs, rfl, q1, q2⟩)) dd hat ?_
      exact h v u' _ (I.tok _) rv rd
    | _ => simp [keyOk] at hk
theorem dic_in {B : Around} {E : Value → Shared → Prop} {t : Bool} {kvs : List (D × D)} {k : D} {y : V} {u : Value} {Q : Value → Shared → Prop} (hu : B.units + 16 < cLine) (I : Inv X pins σ H s) (g : DicAt X.K A H a t kvs) (hk : keyOk t k = true) (rk : Rep X.K A H k y) (ry : RelV y u)
    (h : ∀ s', Inv X pins σ H s' → Q (.bool (find k kvs).isSome) s') : wpAny (model X.prog X.w) B (compareOp .In u (.ref a)) Q E s := by
  rcases g with ⟨rfl, ks, e, r⟩ | ⟨rfl, es, e, r⟩
  · obtain ⟨c, hc⟩ := keyK hk
    have q := find_K hc r
    have hy := kv_rep hc rk
    subst hy
    refine d_in (by omega) I (DGet.k e) ry fun s' I' => ?_
    have z : (valV ks c).isSome = (find k kvs).isSome := by
      cases hf : find k kvs with
      | none => rw [hf] at q; rw [show valV ks c = none from q]; rfl
      | some d => rw [hf] at q; obtain ⟨v, hv, _⟩ := q; rw [hv]; rfl
    rw [z]
    exact h s' I'
  · obtain ⟨c, hc, hd⟩ := keyT hk
    obtain ⟨z, hsm, xs, rel, dd, _⟩ := dic_rd I e r
    have q := find_T hc r rel
    have hk' := hk
    cases k with
    | tup xs' =>
      simp only [Rep] at rk
      obtain ⟨b', vs, rfl, q1, q2⟩ := rk
      cases (show u = Value.ref b' from ry)
      refine wpAny_in_heap (by show B.units + 1 + 8 < cLine; omega) (is_of (A := A) I hk' hc (by simp only [Rep]; exact ⟨b', vs, rfl, q1, q2⟩)) hsm dd ?_
      have z : (atKey xs c).isSome = (find (.tup xs') kvs).isSome := by
        cases hf : find (.tup xs') kvs with
        | none => rw [hf] at q; rw [show atKey xs c = none from q]; rfl
        | some d => rw [hf] at q; obtain ⟨b, u', v, hv, _⟩ := q; rw [hv]; rfl
      rw [z]
      exact h _ (I.tok _)
    | _ => simp [keyOk] at hk
theorem dic_notIn {B : Around} {E : Value → Shared → Prop} {t : Bool} {kvs : List (D × D)} {k : D} {y : V} {u : Value} {Q : Value → Shared → Prop} (hu : B.units + 16 < cLine) (I : Inv X pins σ H s) (g : DicAt X.K A H a t kvs) (hk : keyOk t k = true) (rk : Rep X.K A H k y) (ry : RelV y u)
    (h : ∀ s', Inv X pins σ H s' → Q (.bool (!(find k kvs).isSome)) s') : wpAny (model X.prog X.w) B (compareOp .NotIn u (.ref a)) Q E s := by
  rcases g with ⟨rfl, ks, e, r⟩ | ⟨rfl, es, e, r⟩
  · obtain ⟨c, hc⟩ := keyK hk
    have q := find_K hc r
    have hy := kv_rep hc rk
    subst hy
    refine d_notIn (by omega) I (DGet.k e) ry fun s' I' => ?_
    have z : (valV ks c).isSome = (find k kvs).isSome := by
      cases hf : find k kvs with
      | none => rw [hf] at q; rw [show valV ks c = none from q]; rfl
      | some d => rw [hf] at q; obtain ⟨v, hv, _⟩ := q; rw [hv]; rfl
    rw [z]
    exact h s' I'
  · obtain ⟨c, hc, hd⟩ := keyT hk
    obtain ⟨z, hsm, xs, rel, dd, _⟩ := dic_rd I e r
    have q := find_T hc r rel
    have hk' := hk
    cases k with
    | tup xs' =>
      simp only [Rep] at rk
      obtain ⟨b', vs, rfl, q1, q2⟩ := rk
      cases (show u = Value.ref b' from ry)
      refine PyProof.Rows.wpAny_notIn_heap (by show B.units + 1 + 8 < cLine; omega) (is_of (A := A) I hk' hc (by simp only [Rep]; exact ⟨b', vs, rfl, q1, q2⟩)) hsm dd ?_
      have z : (atKey xs c).isSome = (find (.tup xs') kvs).isSome := by
        cases hf : find (.tup xs') kvs with
        | none => rw [hf] at q; rw [show atKey xs c = none from q]; rfl
        | some d => rw [hf] at q; obtain ⟨b, u', v, hv, _⟩ := q; rw [hv]; rfl
      rw [z]
      exact h _ (I.tok _)
    | _ => simp [keyOk] at hk
/-! ### stores -/
def putE (es : List (NestedKey × Addr × V)) (c : NestedKey) (b : Addr) (v : V) : List (NestedKey × Addr × V) :=
  if es.any (fun x => decide (x.1 = c)) then es.map (fun x => if x.1 = c then (x.1, x.2.1, v) else x) else es ++ [(c, b, v)]
theorem map_no {α β : Type} [DecidableEq α] (c : α) (f : α × β → α × β) : ∀ (es : List (α × β)), ¬ c ∈ es.map (·.1) → es.map (fun x => if x.1 = c then f x else x) = es
  | [], _ => rfl
  | x :: es, h => by
    simp only [List.map_cons, List.mem_cons, not_or] at h
    simp only [List.map_cons]
    rw [if_neg fun z => h.1 z.symm, map_no c f es h.2]
theorem put_T {K : Frag} {k d : D} {c : NestedKey} {b : Addr} {v : V} (hc : nk k = some c) (hk : keyOk true k = true) (rk : Rep K A H k (.ref b)) (rd : Rep K A H d v) : ∀ {kvs : List (D × D)} {es : List (NestedKey × Addr × V)}, RepT K A H kvs es → (es.map (·.1)).Nodup →
    RepT K A H (putD k d kvs) (putE es c b v)
  | [], es, r, _ => by
    simp only [RepT] at r
    subst r
    show RepT K A H [(k, d)] [(c, b, v)]
    simp only [RepT]
    exact ⟨c, b, v, [], rfl, ⟨hc, hk⟩, rk, rd, rfl⟩
  | (k0, d0) :: kvs, es, r, nd => by
    simp only [RepT] at r
    obtain ⟨c0, b0, v0, q, rfl, ⟨h0, hk0⟩, h1, h2, h3⟩ := r
    simp only [List.map_cons, List.nodup_cons] at nd
    simp only [putD, nk_eq h0 hc]
    by_cases e : c0 = c
    · rw [decide_eq_true e, if_pos rfl]
      have e1 : putE ((c0, b0, v0) :: q) c b v = (c0, b0, v) :: q := by
        unfold putE
        rw [if_pos (by simp [e])]
        simp only [List.map_cons]
        rw [if_pos e, map_no c (fun x => (x.1, x.2.1, v)) q (by rw [← e]; exact nd.1)]
      rw [e1]
      simp only [RepT]
      exact ⟨c0, b0, v, q, rfl, ⟨h0, hk0⟩, h1, rd, h3⟩
    · rw [decide_eq_false e, if_neg (by decide)]
      have e1 : putE ((c0, b0, v0) :: q) c b v = (c0, b0, v0) :: putE q c b v := by
        unfold putE
        simp only [List.any_cons, decide_eq_false e, Bool.false_or]
        split
        · simp only [List.map_cons]
          rw [if_neg e]
        · rfl
      rw [e1]
      simp only [RepT]
      exact ⟨c0, b0, v0, _, rfl, ⟨h0, hk0⟩, h1, h2, put_T hc hk rk rd h3 nd.2⟩
theorem put_K {K : Frag} {k d : D} {c : Key} {v : V} (hc : kvK k = some c) (rd : Rep K A H d v) : ∀ {kvs : List (D × D)} {ks : List (Key × V)}, RepK K A H kvs ks → (ks.map (·.1)).Nodup → RepK K A H (putD k d kvs) (putK ks c v)
  | [], ks, r, _ => by
    simp only [RepK] at r
    subst r
    show RepK K A H [(k, d)] [(c, v)]
    simp only [RepK]
    exact ⟨c, v, [], rfl, hc, rd, rfl⟩
  | (k0, d0) :: kvs, ks, r, nd => by
    simp only [RepK] at r
    obtain ⟨c0, v0, q, rfl, h0, h2, h3⟩ := r
    simp only [List.map_cons, List.nodup_cons] at nd
    simp only [putD, kv_eq h0 hc]
    by_cases e : c0 = c
    · rw [decide_eq_true e, if_pos rfl]
      have e1 : putK ((c0, v0) :: q) c v = (c0, v) :: q := by
        unfold putK
        rw [if_pos (by simp [e])]
        simp only [List.map_cons]
        rw [if_pos e, map_no c (fun x => (x.1, v)) q (by rw [← e]; exact nd.1)]
      rw [e1]
      simp only [RepK]
      exact ⟨c0, v, q, rfl, h0, rd, h3⟩
    · rw [decide_eq_false e, if_neg (by decide)]
      have e1 : putK ((c0, v0) :: q) c v = (c0, v0) :: putK q c v := by
        unfold putK
        simp only [List.any_cons, decide_eq_false e, Bool.false_or]
        split
        · simp only [List.map_cons]
          rw [if_neg e]
        · rfl
      rw [e1]
      simp only [RepK]
      exact ⟨c0, v0, _, rfl, h0, h2, put_K hc rd h3 nd.2⟩
theorem pt_keys : ∀ {es : List (NestedKey × Addr × V)} {xs : List (NestedKey × Addr × Value)}, PT3 es xs → es.map (·.1) = xs.map (·.1)
  | _, _, .nil => rfl
  | _, _, .cons h t => by
    simp only [List.map_cons]
    rw [h.1, pt_keys t]
theorem pt_any {es : List (NestedKey × Addr × V)} {xs : List (NestedKey × Addr × Value)} (p : PT3 es xs) (c : NestedKey) : (es.any fun x => decide (x.1 = c)) = (atKey xs c).isSome := by
  induction p with
  | nil => rfl
  | @cons x y es xs h t ih =>
    simp only [List.any_cons]
    have h1 : x.1 = y.1 := h.1
    by_cases e : y.1 = c
    · have e2 : atKey (y :: xs) c = some y.2 := by
        unfold atKey
        rw [List.find?_cons_of_pos (by simpa using e)]
        rfl
      rw [e2, h1, decide_eq_true e]
      rfl
    · have e2 : atKey (y :: xs) c = atKey xs c := by
        unfold atKey
        rw [List.find?_cons_of_neg (by simpa using e)]
      rw [e2, h1, decide_eq_false e, Bool.false_or, ih]
theorem pt_put {es : List (NestedKey × Addr × V)} {xs : List (NestedKey × Addr × Value)} (p : PT3 es xs) (c : NestedKey) (b : Addr) {v : V} {u : Value} (r : RelV v u) : PT3 (putE es c b v) (storedH xs c b u) := by
  unfold putE storedH
  rw [pt_any p]
  split
  · rename_i h
    clear h
    induction p with
    | nil => exact .nil
    | @cons x y es xs h t ih =>
      simp only [List.map_cons]
      refine .cons ?_ ih
      unfold putAt
      have h1 : x.1 = y.1 := h.1
      by_cases e : y.1 = c
      · rw [if_pos (h1.trans e), if_pos e]
        exact ⟨h1, h.2.1, r⟩
      · rw [if_neg fun z => e (h1.symm.trans z), if_neg e]
        exact h
  · exact Paired.snoc p ⟨rfl, rfl, r⟩
theorem putE_len (es : List (NestedKey × Addr × V)) (c : NestedKey) (b : Addr) (v : V) : (putE es c b v).length ≤ es.length + 1 := by
  unfold putE
  split <;> simp
theorem RepT.len {K : Frag} : ∀ {kvs : List (D × D)} {es : List (NestedKey × Addr × V)}, RepT K A H kvs es → es.length = kvs.length
  | [], es, r => by
    simp only [RepT] at r
    subst r
    rfl
  | (k, d) :: kvs, es, r => by
    simp only [RepT] at r
    obtain ⟨c0, b0, v0, q, rfl, _, _, _, h3⟩ := r
    simp [RepT.len h3]
theorem RepK.len {K : Frag} : ∀ {kvs : List (D × D)} {es : List (Key × V)}, RepK K A H kvs es → es.length = kvs.length
  | [], es, r => by
    simp only [RepK] at r
    subst r
    rfl
  | (k, d) :: kvs, es, r => by
    simp only [RepK] at r
    obtain ⟨c0, v0, q, rfl, _, _, h3⟩ := r
    simp [RepK.len h3]
theorem RepT.hash {K : Frag} (w w' : World) : ∀ {kvs : List (D × D)} {es : List (NestedKey × Addr × V)}, RepT K A H kvs es → ∀ x ∈ es, x.1.hash w = x.1.hash w'
  | [], es, r, x, hx => by
    simp only [RepT] at r
    subst r
    cases hx
  | (k, d) :: kvs, es, r, x, hx => by
    simp only [RepT] at r
    obtain ⟨c0, b0, v0, q, rfl, ⟨h0, _⟩, _, _, h3⟩ := r
    rcases List.mem_cons.mp hx with z | hx
    · subst z
      exact nk_hash w w' k c0 h0
    · exact RepT.hash w w' h3 x hx
theorem ent_any {w w' : World} : ∀ {es : List (NestedKey × Addr × V)} {xs : List (NestedKey × Addr × Value)}, PT3 es xs → (∀ x ∈ es, x.1.hash w = x.1.hash w') → xs.map (entW w) = xs.map (entW w')
  | _, _, .nil, _ => rfl
  | _, _, @Paired.cons _ _ _ x y es xs h t, hh => by
    simp only [List.map_cons]
    rw [ent_any t fun z hz => hh z (List.mem_cons_of_mem _ hz)]
    have h1 : x.1 = y.1 := h.1
    have h2 := hh x List.mem_cons_self
    rw [h1] at h2
    unfold entW
    rw [h2]
/-- d[k] = v -/
def rSetN (K : Frag) : TSet := fun o i v H Q => ∃ A t kvs k d a, o = .ref a ∧ A a ∧ DicAt K A H a t kvs ∧ Rep K A H k i ∧ Rep K A H d v ∧ keyOk t k = true ∧ kvs.length < SZ ∧ ∀ ob, DicAt K A (upd H a ob) a t (putD k d kvs) → Q (upd H a ob)
theorem set_dic (hu : X.A.units + 16 < cLine) : PSet X (rSetN X.K) := by
  intro pins s σ H o i v ov iv u Q I ro ri rv ⟨A, t, kvs, k, d, a, eo, hA, g, rk, rd, hk, hl, q⟩
  subst eo
  cases (show ov = Value.ref a from ro)
  rcases g with ⟨rfl, ks, e, r⟩ | ⟨rfl, es, e, r⟩
  · obtain ⟨c, hc⟩ := keyK hk
    have hy := kv_rep hc rk
    subst hy
    have hlen := r.len
    have nd : (ks.map (·.1)).Nodup := by
      obtain ⟨_, _, vs, rel, _, _, _, _, _, _, _, _, nd⟩ := dk_of I.hok e
      rw [rel.keys]
      exact nd
    refine d_setItem (by omega) I (DPut.k e (by rw [hlen]; exact hl)) ri rv fun s' I' => ⟨_, I', q _ ?_⟩
    have mv : Mv A H A (upd H a (.dK (putK ks c v))) := ⟨fun b hb => .inl hb, fun b ob e3 hb => by
      rw [upd_ne]
      · exact e3
      · intro z
        subst z
        rcases hb with hb | hb
        · exact hb hA
        · rw [e] at e3
          cases e3
          exact hb⟩
    exact .inl ⟨rfl, _, upd_same, RepK.move mv _ _ (put_K hc rd r nd)⟩
  · obtain ⟨c, hc, hd⟩ := keyT hk
    obtain ⟨z, hsm, xs, rel, dd, o0, en, ep, g1, g2, g3, g4, g5⟩ := dic_rd I e r
    have hk' := hk
    have nd : (es.map (·.1)).Nodup := by
      rw [pt_keys rel]
      exact g5
    cases k with
    | tup xs' =>
      have rk0 := rk
      simp only [Rep] at rk
      obtain ⟨b', vs, rfl, q1, q2⟩ := rk
      cases (show iv = Value.ref b' from ri)
      have hlen := r.len
      have hsz : SZ = sizeLine := rfl
      have hz : xs.length ≤ sizeLine := by rw [← Paired.length rel]; exact z
      have rp := put_T hc hk rk0 rd r nd
      have pp := pt_put rel c b' rv
      refine wpAny_setItem_heap (hsz := hz) (by show X.A.units + 1 + 8 < cLine; omega) (is_of (A := A) I hk hc rk0) dd fun h' dd' hs => ?_
      obtain ⟨q0, en', ep', hq, h2, h3, h4, _, h5⟩ := dd'
      have mv : Mv A H A (upd H a (dicT a (putE es c b' v))) := ⟨fun b hb => .inl hb, fun b ob e3 hb => by
        rw [upd_ne]
        · exact e3
        · intro z
          subst z
          rcases hb with hb | hb
          · exact hb hA
          · rw [e] at e3
            cases e3
            exact hb⟩
      refine ⟨upd H a (dicT a (putE es c b' v)), ?_, q _ (.inr ⟨rfl, _, upd_same, RepT.move mv _ _ rp⟩)⟩
      refine d_write I (by rw [e]; exact True.intro) hs ⟨q0, hq⟩ ⟨⟨hsm, ?_, _, pp, q0, en', ep', hq, h2, h3, fun w => ?_, h5⟩, ⟨q0, hq⟩, ?_⟩
      · have := putE_len es c b' v
        omega
      · have h4' : en'.toList = (storedH xs c b' u).map (entW X.w) := h4
        rw [h4']
        exact ent_any pp (rp.hash X.w w)
      · rintro h1 h2 ⟨y1, y2, xs', y3, o', en2, ep2, z1, z2⟩ hk2
        exact ⟨y1, y2, xs', y3, o', en2, ep2, hk2 _ z1, z2⟩
    | _ => simp [keyOk] at hk
/-- of a list or a dict -/
def rSetX (K : Frag) : TSet := fun o i v H Q => rSetL o i v H Q ∨ rSetN K o i v H Q
theorem set_any (hu : X.A.units + 16 < cLine) : PSet X (rSetX X.K) := fun pins s σ H o i v ov iv u Q I ro ri rv h => by
  rcases h with h | h
  · exact set_list pins s σ H o i v ov iv u Q I ro ri rv h
  · exact set_dic hu pins s σ H o i v ov iv u Q I ro ri rv h
end
end Py
/-! Operators. -/
namespace Py
open PySem L2
/-! ### data of the library -/
mutual
def toPy : D → PyData
  | .non => .none
  | .bl b => .bool b
  | .int i => .int i
  | .str s => .str (Str.ofString s)
  | .tup xs => .tuple (toPyL xs)
  | .lst xs => .list (toPyL xs)
  | .dic _ _ => .none
  | .ins _ _ => .none
def toPyL : List D → List PyData
  | [] => []
  | d :: r => toPy d :: toPyL r
end
theorem str_len (s : String) : (Str.ofString s).length = s.length := by
  rw [Str.ofString_eq_toList]
  simp [Str.length, String.length_toList]
theorem str_ok (s : String) : PySem.PyData.strOk (Str.ofString s) = true := by
  rw [Str.ofString_eq_toList]
  simp only [PySem.PyData.strOk, List.size_toArray, List.all_toArray', List.all_map]
  refine List.all_eq_true.mpr fun c _ => ?_
  simp only [Function.comp, decide_eq_true_eq]
  rcases c.valid with h | h
  · have h2 : c.toNat < 55296 := h
    omega
  · have h2 : c.toNat < 1114112 := h.2
    omega
mutual
theorem dp_of {K : Frag} {H : Hp} : ∀ (n : Nat) (d : D) (v : V), pl n d = true → Rep K (fun _ => False) H d v → Dp K H v (toPy d) ∧ (toPy d).canLay0 = true ∧ (toPy d).depth ≤ n
  | n, .non, v, _, h => by
    simp only [Rep] at h
    subst h
    exact ⟨.non, by simp [toPy, PyData.canLay0], by simp [toPy, PyData.depth]⟩
  | n, .bl b, v, _, h => by
    simp only [Rep] at h
    subst h
    exact ⟨.bl b, by simp [toPy, PyData.canLay0], by simp [toPy, PyData.depth]⟩
  | n, .int b, v, _, h => by
    simp only [Rep] at h
    subst h
    exact ⟨.int b, by simp [toPy, PyData.canLay0], by simp [toPy, PyData.depth]⟩
  | n, .str b, v, _, h => by
    simp only [Rep] at h
    subst h
    exact ⟨.str _, by simp [toPy, PyData.canLay0, str_ok], by simp [toPy, PyData.depth]⟩
  | n + 1, .tup xs, v, p, h => by
    simp only [Rep] at h
    obtain ⟨a, vs, rfl, q, r⟩ := h
    simp only [pl] at p
    obtain ⟨h1, h2, h3⟩ := dp_ofL n xs vs p r
    refine ⟨?_, by simpa [toPy, PyData.canLay0] using h2, by simp only [toPy, PyData.depth]; omega⟩
    simp only [toPy]
    exact .tup q h1
  | n + 1, .lst xs, v, p, h => by
    simp only [Rep] at h
    obtain ⟨a, vs, rfl, _, q, r⟩ := h
    simp only [pl] at p
    obtain ⟨h1, h2, h3⟩ := dp_ofL n xs vs p r
    refine ⟨?_, by simpa [toPy, PyData.canLay0] using h2, by simp only [toPy, PyData.depth]; omega⟩
    simp only [toPy]
    exact .lst (.inl q) h1
  | 0, .tup xs, v, p, h => by simp [pl] at p
  | 0, .lst xs, v, p, h => by simp [pl] at p
  | n, .dic _ _, v, p, h => by cases n <;> simp [pl] at p
  | n, .ins _ _, v, p, h => by cases n <;> simp [pl] at p
theorem dp_ofL {K : Frag} {H : Hp} : ∀ (n : Nat) (ds : List D) (vs : List V), ds.all (pl n) = true → RepL K (fun _ => False) H ds vs → DpAll K H vs (toPyL ds) ∧ PyData.canLayAll0 (toPyL ds) = true ∧ PyData.depthAll (toPyL ds) ≤ n
  | n, [], vs, _, h => by
    simp only [RepL] at h
    subst h
    exact ⟨.nil, by simp [toPyL, PyData.canLayAll0], by simp [toPyL, PyData.depthAll]⟩
  | n, d :: ds, vs, p, h => by
    simp only [RepL] at h
    obtain ⟨v, r, rfl, h1, h2⟩ := h
    simp only [List.all_cons, Bool.and_eq_true] at p
    obtain ⟨a1, a2, a3⟩ := dp_of n d v p.1 h1
    obtain ⟨b1, b2, b3⟩ := dp_ofL n ds r p.2 h2
    refine ⟨.cons a1 b1, by simp [toPyL, PyData.canLayAll0, a2, b2], by simp only [toPyL, PyData.depthAll]; omega⟩
end
mutual
theorem eqv_py : ∀ (d e : D) (n m : Nat), pl n d = true → pl m e = true → PyData.eqv (toPy d) (toPy e) = eqv d e
  | .non, e, n, m, _, q => by cases e <;> first | (cases m <;> simp [pl] at q; done) | simp [toPy, PyData.eqv, eqv]
  | .bl b, e, n, m, _, _ => by cases e <;> simp [toPy, PyData.eqv, eqv, b2i]
  | .int b, e, n, m, _, _ => by cases e <;> simp [toPy, PyData.eqv, eqv, b2i]
  | .str b, e, n, m, _, _ => by
    cases e with
    | str c =>
      simp only [toPy, PyData.eqv, eqv]
      by_cases q : b = c
      · subst q
        simp
      · rw [beq_eq_false_iff_ne.mpr q]
        exact beq_eq_false_iff_ne.mpr fun z => q (ofS_inj z)
    | _ => simp [toPy, PyData.eqv, eqv]
  | .tup xs, e, n, m, p, q => by
    cases e with
    | tup ys =>
      cases n with
      | zero => simp [pl] at p
      | succ n =>
        cases m with
        | zero => simp [pl] at q
        | succ m =>
          simp only [toPy, PyData.eqv, eqv]
          exact eqv_pyL xs ys n m (by simpa only [pl] using p) (by simpa only [pl] using q)
    | _ => simp [toPy, PyData.eqv, eqv]
  | .lst xs, e, n, m, p, q => by
    cases e with
    | lst ys =>
      cases n with
      | zero => simp [pl] at p
      | succ n =>
        cases m with
        | zero => simp [pl] at q
        | succ m =>
          simp only [toPy, PyData.eqv, eqv]
          exact eqv_pyL xs ys n m (by simpa only [pl] using p) (by simpa only [pl] using q)
    | _ => simp [toPy, PyData.eqv, eqv]
  | .dic _ _, e, n, m, p, _ => by cases n <;> simp [pl] at p
  | .ins _ _, e, n, m, p, _ => by cases n <;> simp [pl] at p
theorem eqv_pyL : ∀ (ds es : List D) (n m : Nat), ds.all (pl n) = true → es.all (pl m) = true → PyData.eqvAll (toPyL ds) (toPyL es) = eqv.eqvL ds es
  | [], [], _, _, _, _ => by simp [toPyL, PyData.eqvAll, eqv.eqvL]
  | [], _ :: _, _, _, _, _ => by simp [toPyL, PyData.eqvAll, eqv.eqvL]
  | _ :: _, [], _, _, _, _ => by simp [toPyL, PyData.eqvAll, eqv.eqvL]
  | d :: ds, e :: es, n, m, p, q => by
    simp only [List.all_cons, Bool.and_eq_true] at p q
    simp only [toPyL, PyData.eqvAll, eqv.eqvL]
    rw [eqv_py d e n m p.1 q.1, eqv_pyL ds es n m p.2 q.2]
end
/-! ### two operands, one operand -/
def r2 (K : Frag) (f : D → D → Res D) : R2 := fun x y H Q => ∃ A d1 d2 d, RepW K A H d1 x ∧ RepW K A H d2 y ∧ (∀ a, A a → H a ≠ none) ∧ f d1 d2 = .ok d ∧ ∀ v H', Same H H' → Rep K A H' d v → Q v H'
def r1 (K : Frag) (f : D → Res D) : V → Hp → VK → Prop := fun x H Q => ∃ A d1 d, RepW K A H d1 x ∧ (∀ a, A a → H a ≠ none) ∧ f d1 = .ok d ∧ ∀ v H', Same H H' → Rep K A H' d v → Q v H'
def NoEx2 (f : D → D → Res D) : Prop := ∀ x y c fs, f x y ≠ .exc c fs
def NoEx1 (f : D → Res D) : Prop := ∀ x c fs, f x ≠ .exc c fs
theorem r2_of {K : Frag} {A : AS} {W : WX} {O : OW} {σ : L2.St} {H0 : Base} {f : D → D → Res D} (hf : NoEx2 f) {x y : V} {H : Hp} {Q : VK} {d1 d2 : D} (h1 : RepW K A H d1 x) (h2 : RepW K A H d2 y) (ha : ∀ a, A a → H a ≠ none)
    {bad : String → List (String × D) → Prop} (h : Out (f d1 d2) (fun d => ∀ v H', Same H H' → Rep K A H' d v → Q v H') bad) : r2 K f x y H Q := by
  cases e : f d1 d2 with
  | ok d =>
    rw [e] at h
    exact ⟨A, d1, d2, d, h1, h2, ha, e, h⟩
  | exc c fs => exact absurd e (hf _ _ _ _)
  | stuck =>
    rw [e] at h
    exact h.elim
theorem RepW.move {K : Frag} {A : AS} {H H' : Hp} (s : Same H H') {d : D} {v : V} (h : RepW K A H d v) : RepW K A H' d v := by
  cases d with
  | lst xs =>
    obtain ⟨a, vs, e, q, r⟩ := h
    refine ⟨a, vs, e, ?_, RepL.move (Mv.same s) _ _ r⟩
    rcases q with q | ⟨o, q⟩
    · exact .inl (s _ _ q)
    · exact .inr ⟨o, s _ _ q⟩
  | ins c fs =>
    obtain ⟨a, dx, fvs, e, q, r⟩ := h
    exact ⟨a, dx, fvs, e, s _ _ q, RepF.move (Mv.same s) _ _ r⟩
  | dic t kvs =>
    obtain ⟨a, e, q⟩ := h
    refine ⟨a, e, ?_⟩
    rcases q with ⟨ht, ks, q, r⟩ | ⟨ht, es, q, r⟩
    · exact .inl ⟨ht, ks, s _ _ q, RepK.move (Mv.same s) _ _ r⟩
    · exact .inr ⟨ht, es, s _ _ q, RepT.move (Mv.same s) _ _ r⟩
  | _ => exact Rep.move (Mv.same s) _ _ h
section
variable {X : Cx} {W : WX} {A : AS} {H0 : Base} {ow : Ow} {a b : Expr} {ma mb : EM} {pos : Pos}
theorem two_of {f : D → D → Res D} (hf : NoEx2 f) {σ : L2.St} {H : Hp} {Q : VK} (h : tE X.K W ow (bin f ma mb) σ H Q) : tOp (r2 X.K f) (tW X.K W ow ma) (tW X.K W ow mb) σ H Q := by
  obtain ⟨A, H0, O, en, R, q⟩ := h
  refine ⟨A, H0, O, en, R, (Out.bind q).good fun d1 q1 v1 H1 s1 r1 => ?_⟩
  refine ⟨A, H0, O, en, R.to s1, ((Out.bind q1).to s1).good fun d2 q2 v2 H2 s2 r2 => ?_⟩
  have R2 := (R.to s1).to s2
  exact r2_of (W := W) (O := O) (σ := σ) (H0 := H0) hf (r1.move s2) r2 R2.there (q2.good fun d k v H' s' r => k v H' ((s1.trans s2).trans s') r)
theorem one_of {f : D → Res D} (hf : NoEx1 f) {σ : L2.St} {H : Hp} {Q : VK} (h : tE X.K W ow (un f ma) σ H Q) : tUn (r1 X.K f) (tW X.K W ow ma) σ H Q := by
  obtain ⟨A, H0, O, en, R, q⟩ := h
  refine ⟨A, H0, O, en, R, (Out.bind q).good fun d1 q1 v1 H1 s1 r1 => ?_⟩
  have R2 := R.to s1
  cases e : f d1 with
  | ok d =>
    rw [e] at q1
    exact ⟨_, d1, d, r1, R2.there, e, fun v H' s' r => q1 v H' (s1.trans s') r⟩
  | exc c fs => exact absurd e (hf _ _ _)
  | stuck =>
    rw [e] at q1
    exact q1.elim
theorem x_bin {op : Operator} {f : D → D → Res D} (ho : OpR X (binaryOp op) (r2 X.K f)) (hf : NoEx2 f) (ha : PE X a (tW X.K W ow ma)) (hb : PE X b (tW X.K W ow mb)) : PE X (.BinOp a op b pos) (tE X.K W ow (bin f ma mb)) :=
  PE.of (pe_op ho ha hb) fun _ _ _ h => two_of hf h
theorem x_un {op : UnaryOp} {f : D → Res D} (ho : UnR X (unaryOp op) (r1 X.K f)) (hf : NoEx1 f) (ha : PE X a (tW X.K W ow ma)) : PE X (.UnaryOp op a pos) (tE X.K W ow (un f ma)) :=
  PE.of (pe_un ho ha) fun _ _ _ h => one_of hf h
theorem x_cmp {op : CmpOp} {f : D → D → Res D} (ho : OpR X (compareOp op) (r2 X.K f)) (hf : NoEx2 f) (ha : PE X a (tW X.K W ow ma)) (hb : PE X b (tW X.K W ow mb)) (hm : behindInMarks op b = false) : PE X (.Compare a [op] [b] pos) (tE X.K W ow (bin f ma mb)) :=
  PE.of (pe_cmpR ho ha hb hm) fun _ _ _ h => two_of hf h
/-! ### ints -/
theorem rep_int {K : Frag} {A : AS} {H : Hp} {i : Int} {v : V} (h : RepW K A H (.int i) v) : v = .int i := h
theorem imp2 {g : Value → Value → Sem Value} {r r' : R2} (h : OpR X g r) (k : ∀ x y H Q, r' x y H Q → r x y H Q) : OpR X g r' := fun pins s σ H x y v u Q I rx ry q => h pins s σ H x y v u Q I rx ry (k x y H Q q)
theorem imp1 {g : Value → Sem Value} {r r' : V → Hp → VK → Prop} (h : UnR X g r) (k : ∀ x H Q, r' x H Q → r x H Q) : UnR X g r' := fun pins s σ H x v Q I rx q => h pins s σ H x v Q I rx (k x H Q q)
theorem int_op {g : Value → Value → Sem Value} {f : D → D → Res D} {C : Int → Int → Prop} {z : Int → Int → V} {zd : Int → Int → D} (h : OpR X g (rI C z))
    (hz : ∀ i j, flat (zd i j) = some (z i j)) (hf : ∀ d1 d2 d, f d1 d2 = .ok d → ∃ i j, d1 = .int i ∧ d2 = .int j ∧ C i j ∧ d = zd i j) : OpR X g (r2 X.K f) := imp2 h fun x y H Q ⟨A, d1, d2, d, h1, h2, _, e, k⟩ => by
  obtain ⟨i, j, rfl, rfl, c, rfl⟩ := hf d1 d2 d e
  exact ⟨i, j, rep_int h1, rep_int h2, c, k _ H (Same.refl H) (flat_rep (hz i j) _ _)⟩
theorem rI_of {g : Value → Value → Sem Value} {z : Int → Int → V} (h : OpR X g (rI0 z)) : OpR X g (rI (fun _ _ => True) z) := imp2 h fun x y H Q ⟨i, j, e1, e2, _, q⟩ => ⟨i, j, e1, e2, q⟩
theorem y_sub : OpR X (binaryOp .Sub) (r2 X.K osub) := int_op (rI_of op_sub) (zd := fun i j => .int (i - j)) (fun _ _ => rfl) fun d1 d2 d e => by
  cases d1 <;> cases d2 <;> simp only [osub, Res.ok.injEq, reduceCtorEq] at e
  exact ⟨_, _, rfl, rfl, trivial, e.symm⟩
theorem y_mul : OpR X (binaryOp .Mult) (r2 X.K omul) := int_op op_mul (zd := fun i j => .int (i * j)) (fun _ _ => rfl) fun d1 d2 d e => by
  cases d1 <;> cases d2 <;> simp only [omul, reduceCtorEq] at e
  split at e
  · rename_i c
    refine ⟨_, _, rfl, rfl, ?_, ?_⟩
    · simp only [B64] at c
      unfold CMul
      have e64 : (2 : Int) ^ 64 = 18446744073709551616 := by decide
      rw [e64]
      omega
    · simp only [Res.ok.injEq] at e
      exact e.symm
  · cases e
theorem y_fdiv : OpR X (binaryOp .FloorDiv) (r2 X.K ofdiv) := int_op op_fdiv (zd := fun i j => .int (i / j)) (fun _ _ => rfl) fun d1 d2 d e => by
  cases d1 <;> cases d2 <;> simp only [ofdiv, reduceCtorEq] at e
  split at e
  · rename_i c
    simp only [Res.ok.injEq] at e
    exact ⟨_, _, rfl, rfl, c, e.symm⟩
  · cases e
theorem y_mod : OpR X (binaryOp .Mod) (r2 X.K omod) := int_op op_mod (zd := fun i j => .int (i % j)) (fun _ _ => rfl) fun d1 d2 d e => by
  cases d1 <;> cases d2 <;> simp only [omod, reduceCtorEq] at e
  split at e
  · rename_i c
    simp only [Res.ok.injEq] at e
    exact ⟨_, _, rfl, rfl, c, e.symm⟩
  · cases e
theorem y_pow : OpR X (binaryOp .Pow) (r2 X.K opow) := int_op op_pow (zd := fun i j => .int (i ^ j.toNat)) (fun _ _ => rfl) fun d1 d2 d e => by
  cases d1 <;> cases d2 <;> simp only [opow, reduceCtorEq] at e
  split at e
  · rename_i c
    simp only [Res.ok.injEq] at e
    refine ⟨_, _, rfl, rfl, ?_, e.symm⟩
    have e64 : (2 : Nat) ^ 64 = 18446744073709551616 := by decide
    unfold CPow
    rw [e64]
    exact c
  · cases e
theorem y_shl : OpR X (binaryOp .LShift) (r2 X.K oshl) := int_op op_shlW (zd := fun i j => .int (i * 2 ^ j.toNat)) (fun _ _ => rfl) fun d1 d2 d e => by
  cases d1 <;> cases d2 <;> simp only [oshl, reduceCtorEq] at e
  split at e
  · rename_i c
    simp only [Res.ok.injEq] at e
    refine ⟨_, _, rfl, rfl, ?_, e.symm⟩
    have e64 : (2 : Int) ^ 27 = 134217728 := by decide
    unfold CShl
    rw [e64]
    exact c
  · cases e
theorem y_shr : OpR X (binaryOp .RShift) (r2 X.K oshr) := int_op op_shr (zd := fun i j => .int (i / 2 ^ j.toNat)) (fun _ _ => rfl) fun d1 d2 d e => by
  cases d1 <;> cases d2 <;> simp only [oshr, reduceCtorEq] at e
  split at e
  · rename_i c
    simp only [Res.ok.injEq] at e
    exact ⟨_, _, rfl, rfl, c, e.symm⟩
  · cases e
theorem y_and : OpR X (binaryOp .BitAnd) (r2 X.K oand) := int_op (rI_of op_and) (zd := fun i j => .int (Builtin.bitAnd i j)) (fun _ _ => rfl) fun d1 d2 d e => by
  cases d1 <;> cases d2 <;> simp only [oand, Res.ok.injEq, reduceCtorEq] at e
  exact ⟨_, _, rfl, rfl, trivial, e.symm⟩
theorem y_or : OpR X (binaryOp .BitOr) (r2 X.K oor) := int_op (rI_of op_or) (zd := fun i j => .int (Builtin.bitOr i j)) (fun _ _ => rfl) fun d1 d2 d e => by
  cases d1 <;> cases d2 <;> simp only [oor, Res.ok.injEq, reduceCtorEq] at e
  exact ⟨_, _, rfl, rfl, trivial, e.symm⟩
theorem y_xor : OpR X (binaryOp .BitXor) (r2 X.K oxor) := int_op (rI_of op_xor) (zd := fun i j => .int (Builtin.bitXor i j)) (fun _ _ => rfl) fun d1 d2 d e => by
  cases d1 <;> cases d2 <;> simp only [oxor, Res.ok.injEq, reduceCtorEq] at e
  exact ⟨_, _, rfl, rfl, trivial, e.symm⟩
theorem y_lt : OpR X (compareOp .Lt) (r2 X.K olt) := int_op (rI_of op_lt) (zd := fun i j => .bl (decide (i < j))) (fun _ _ => rfl) fun d1 d2 d e => by
  cases d1 <;> cases d2 <;> simp only [olt, Res.ok.injEq, reduceCtorEq] at e
  exact ⟨_, _, rfl, rfl, trivial, e.symm⟩
theorem y_le : OpR X (compareOp .LtE) (r2 X.K ole) := int_op (rI_of op_le) (zd := fun i j => .bl (decide (i ≤ j))) (fun _ _ => rfl) fun d1 d2 d e => by
  cases d1 <;> cases d2 <;> simp only [ole, Res.ok.injEq, reduceCtorEq] at e
  exact ⟨_, _, rfl, rfl, trivial, e.symm⟩
theorem y_gt : OpR X (compareOp .Gt) (r2 X.K ogt) := int_op (rI_of op_gt) (zd := fun i j => .bl (decide (j < i))) (fun _ _ => rfl) fun d1 d2 d e => by
  cases d1 <;> cases d2 <;> simp only [ogt, Res.ok.injEq, reduceCtorEq] at e
  exact ⟨_, _, rfl, rfl, trivial, e.symm⟩
theorem y_ge : OpR X (compareOp .GtE) (r2 X.K oge) := int_op (rI_of op_ge) (zd := fun i j => .bl (decide (j ≤ i))) (fun _ _ => rfl) fun d1 d2 d e => by
  cases d1 <;> cases d2 <;> simp only [oge, Res.ok.injEq, reduceCtorEq] at e
  exact ⟨_, _, rfl, rfl, trivial, e.symm⟩
theorem y_neg : UnR X (unaryOp .USub) (r1 X.K oneg) := imp1 un_neg fun x H Q ⟨A, d1, d, h1, _, e, k⟩ => by
  cases d1 <;> simp only [oneg, Res.ok.injEq, reduceCtorEq] at e
  subst e
  exact ⟨_, rep_int h1, k _ H (Same.refl H) (flat_rep rfl _ _)⟩
/-! ### == and in -/
theorem y_eq (hu : X.A.units + 64 < cLine) : OpR X (compareOp .Eq) (r2 X.K oeq) := imp2 (op_eqD hu) fun x y H Q ⟨A, d1, d2, d, h1, h2, _, e, k⟩ => by
  unfold oeq at e
  split at e
  · rename_i c
    rw [Bool.and_eq_true] at c
    simp only [Res.ok.injEq] at e
    subst e
    obtain ⟨a1, a2, a3⟩ := dp_of 64 d1 x c.1 h1.none
    obtain ⟨b1, b2, b3⟩ := dp_of 64 d2 y c.2 h2.none
    refine ⟨_, _, a1, b1, ?_, ?_, ?_⟩
    · unfold SeqAt.shaped
      rw [a2, decide_eq_true a3]
      rfl
    · unfold SeqAt.shaped
      rw [b2, decide_eq_true b3]
      rfl
    · rw [eqv_py d1 d2 64 64 c.1 c.2]
      exact k _ H (Same.refl H) (flat_rep rfl _ _)
  · cases e
theorem y_ne (hu : X.A.units + 64 < cLine) : OpR X (compareOp .NotEq) (r2 X.K one) := imp2 (op_neD hu) fun x y H Q ⟨A, d1, d2, d, h1, h2, _, e, k⟩ => by
  unfold one at e
  split at e
  · rename_i c
    rw [Bool.and_eq_true] at c
    simp only [Res.ok.injEq] at e
    subst e
    obtain ⟨a1, a2, a3⟩ := dp_of 64 d1 x c.1 h1.none
    obtain ⟨b1, b2, b3⟩ := dp_of 64 d2 y c.2 h2.none
    refine ⟨_, _, a1, b1, ?_, ?_, ?_⟩
    · unfold SeqAt.shaped
      rw [a2, decide_eq_true a3]
      rfl
    · unfold SeqAt.shaped
      rw [b2, decide_eq_true b3]
      rfl
    · rw [eqv_py d1 d2 64 64 c.1 c.2]
      exact k _ H (Same.refl H) (flat_rep rfl _ _)
  · cases e
theorem flat_v {K : Frag} {A : AS} {H : Hp} {d : D} {v : V} (f : flatD d = true) (h : Rep K A H d v) : flatV v = true ∧ ∀ {e : D} {w : V}, flatD e = true → Rep K A H e w → eqV v w = eqv d e := by
  cases d <;> simp only [flatD, reduceCtorEq] at f <;> simp only [Rep] at h <;> subst h <;> refine ⟨rfl, ?_⟩ <;> intro e w fe he <;> cases e <;> simp only [flatD, reduceCtorEq] at fe <;> simp only [Rep] at he <;> subst he <;> simp only [eqV, eqv, b2i]
  rename_i b c
  by_cases q : b = c
  · subst q
    simp
  · rw [beq_eq_false_iff_ne.mpr q]
    exact beq_eq_false_iff_ne.mpr fun z => q (ofS_inj z)
theorem flat_all {K : Frag} {A : AS} {H : Hp} {x : D} {w : V} (fx : flatD x = true) (hx : Rep K A H x w) : ∀ {ds : List D} {vs : List V}, ds.all flatD = true → RepL K A H ds vs → vs.all flatV = true ∧ inV w vs = mem x ds
  | [], vs, _, h => by
    simp only [RepL] at h
    subst h
    exact ⟨rfl, rfl⟩
  | d :: ds, vs, f, h => by
    simp only [RepL] at h
    obtain ⟨v, r, rfl, h1, h2⟩ := h
    simp only [List.all_cons, Bool.and_eq_true] at f
    obtain ⟨a1, a2⟩ := flat_v f.1 h1
    obtain ⟨b1, b2⟩ := flat_all fx hx f.2 h2
    refine ⟨by simp only [List.all_cons, a1, b1, Bool.and_self], ?_⟩
    unfold inV at b2 ⊢
    simp only [List.any_cons, mem, a2 fx hx, b2]
theorem flatW {K : Frag} {A : AS} {H : Hp} {d : D} {v : V} (f : flatD d = true) (h : RepW K A H d v) : Rep K A H d v := by
  cases d <;> simp only [flatD, reduceCtorEq] at f <;> exact h
theorem in_of {K : Frag} {neg : Bool} {f : D → D → Res D} (hf : ∀ x y d, f x y = .ok d → ∃ ys, (y = .lst ys ∨ y = .tup ys) ∧ flatD x = true ∧ ys.all flatD = true ∧ d = .bl (if neg then !mem x ys else mem x ys)) :
    ∀ x y H Q, r2 K f x y H Q → rIn K neg x y H Q := fun x y H Q ⟨A, d1, d2, d, h1, h2, _, e, k⟩ => by
  obtain ⟨ys, hy, fx, fy, rfl⟩ := hf d1 d2 d e
  have g1 := flatW fx h1
  obtain ⟨a, vs, rfl, hq, r⟩ : ∃ a vs, y = .ref a ∧ (SqL K H a vs ∨ SqT K H a vs) ∧ RepL K A H ys vs := by
    rcases hy with rfl | rfl
    · obtain ⟨a, vs, e, q, r⟩ := h2
      exact ⟨a, vs, e, .inl (.inl q), r⟩
    · obtain ⟨a, vs, e, q, r⟩ := (by simpa only [RepW, Rep] using h2 : ∃ a vs, y = .ref a ∧ SqT K H a vs ∧ RepL K A H ys vs)
      exact ⟨a, vs, e, .inr q, r⟩
  obtain ⟨b1, b2⟩ := flat_all fx g1 fy r
  refine ⟨a, vs, rfl, hq, (flat_v fx g1).1, b1, ?_⟩
  rw [b2]
  exact k _ H (Same.refl H) (flat_rep rfl _ _)
def isDic : D → Bool
  | .dic _ _ => true
  | _ => false
theorem y_in (hu : X.A.units + 16 < cLine) : OpR X (compareOp .In) (r2 X.K oin) := by
  have base : OpR X (compareOp .In) (fun x y H Q => ∃ A d1 d2 d, isDic d2 = false ∧ RepW X.K A H d1 x ∧ RepW X.K A H d2 y ∧ (∀ a, A a → H a ≠ none) ∧ oin d1 d2 = .ok d ∧ ∀ v H', Same H H' → Rep X.K A H' d v → Q v H') :=
    imp2 op_in_seq fun x y H Q ⟨A, d1, d2, d, hd, h1, h2, h3, e, k⟩ => by
      have q : r2 X.K (fun a b => if isDic b then Res.stuck else oin a b) x y H Q := ⟨A, d1, d2, d, h1, h2, h3, by show (if isDic d2 = true then Res.stuck else oin d1 d2) = _; rw [hd]; exact e, k⟩
      refine in_of (f := fun a b => if isDic b then Res.stuck else oin a b) (neg := false) (fun x y d e => ?_) x y H Q q
      cases y with
      | tup xs =>
        have e : oin x (.tup xs) = .ok d := e
        simp only [oin] at e
        split at e
        · rename_i c
          rw [Bool.and_eq_true] at c
          simp only [Res.ok.injEq] at e
          exact ⟨xs, .inr rfl, c.1, c.2, e.symm⟩
        · cases e
      | lst xs =>
        have e : oin x (.lst xs) = .ok d := e
        simp only [oin] at e
        split at e
        · rename_i c
          rw [Bool.and_eq_true] at c
          simp only [Res.ok.injEq] at e
          exact ⟨xs, .inl rfl, c.1, c.2, e.symm⟩
        · cases e
      | _ => simp [oin, isDic] at e
  intro pins s σ H x y v u Q I rx ry ⟨A, d1, d2, d, h1, h2, h3, e, k⟩
  cases hd : isDic d2 with
  | false => exact base pins s σ H x y v u Q I rx ry ⟨A, d1, d2, d, hd, h1, h2, h3, e, k⟩
  | true =>
    cases d2 <;> simp only [isDic, reduceCtorEq] at hd
    rename_i t kvs
    simp only [oin] at e
    split at e
    · rename_i hk
      simp only [Res.ok.injEq] at e
      subst e
      obtain ⟨a, rfl, g⟩ := h2
      cases (show u = Value.ref a from ry)
      have h1' : Rep X.K A H d1 x := by
        cases d1 <;> first | exact h1 | (cases t <;> simp [keyOk] at hk)
      exact dic_in hu I g hk h1' rx fun s' I' => ⟨.bl (find d1 kvs).isSome, H, I', rfl, k _ H (Same.refl H) rfl⟩
    · cases e
theorem y_notin (hu : X.A.units + 16 < cLine) : OpR X (compareOp .NotIn) (r2 X.K onotin) := by
  have base : OpR X (compareOp .NotIn) (fun x y H Q => ∃ A d1 d2 d, isDic d2 = false ∧ RepW X.K A H d1 x ∧ RepW X.K A H d2 y ∧ (∀ a, A a → H a ≠ none) ∧ onotin d1 d2 = .ok d ∧ ∀ v H', Same H H' → Rep X.K A H' d v → Q v H') :=
    imp2 op_notIn_seq fun x y H Q ⟨A, d1, d2, d, hd, h1, h2, h3, e, k⟩ => by
      have q : r2 X.K (fun a b => if isDic b then Res.stuck else onotin a b) x y H Q := ⟨A, d1, d2, d, h1, h2, h3, by show (if isDic d2 = true then Res.stuck else onotin d1 d2) = _; rw [hd]; exact e, k⟩
      refine in_of (f := fun a b => if isDic b then Res.stuck else onotin a b) (neg := true) (fun x y d e => ?_) x y H Q q
      cases y with
      | tup xs =>
        have e : onotin x (.tup xs) = .ok d := e
        simp only [onotin] at e
        split at e
        · rename_i c
          rw [Bool.and_eq_true] at c
          simp only [Res.ok.injEq] at e
          exact ⟨xs, .inr rfl, c.1, c.2, e.symm⟩
        · cases e
      | lst xs =>
        have e : onotin x (.lst xs) = .ok d := e
        simp only [onotin] at e
        split at e
        · rename_i c
          rw [Bool.and_eq_true] at c
          simp only [Res.ok.injEq] at e
          exact ⟨xs, .inl rfl, c.1, c.2, e.symm⟩
        · cases e
      | _ => simp [onotin, isDic] at e
  intro pins s σ H x y v u Q I rx ry ⟨A, d1, d2, d, h1, h2, h3, e, k⟩
  cases hd : isDic d2 with
  | false => exact base pins s σ H x y v u Q I rx ry ⟨A, d1, d2, d, hd, h1, h2, h3, e, k⟩
  | true =>
    cases d2 <;> simp only [isDic, reduceCtorEq] at hd
    rename_i t kvs
    simp only [onotin] at e
    split at e
    · rename_i hk
      simp only [Res.ok.injEq] at e
      subst e
      obtain ⟨a, rfl, g⟩ := h2
      cases (show u = Value.ref a from ry)
      have h1' : Rep X.K A H d1 x := by
        cases d1 <;> first | exact h1 | (cases t <;> simp [keyOk] at hk)
      exact dic_notIn hu I g hk h1' rx fun s' I' => ⟨.bl (!(find d1 kvs).isSome), H, I', rfl, k _ H (Same.refl H) rfl⟩
    · cases e
/-! ### + -/
theorem RepL.empty {K : Frag} {A : AS} {H : Hp} {ds : List D} {vs : List V} (h : RepL K A H ds vs) : ds = [] ↔ vs = [] := by
  have := h.length
  constructor
  · intro e
    subst e
    exact List.eq_nil_of_length_eq_zero this.symm
  · intro e
    subst e
    exact List.eq_nil_of_length_eq_zero this
/-- a new object is clean -/
theorem new_same {H : Hp} {p : Addr} {o : HO} (h : H p = none) : Same H (upd H p o) := fun b u e => by
  rw [upd_ne (ne_of_none e h)]
  exact e
theorem new_tup {K : Frag} {A : AS} {H : Hp} {ds : List D} {vs : List V} (r : RepL K A H ds vs) {p : Addr} (h : H p = none) : Rep K A (upd H p (.tup vs)) (.tup ds) (.ref p) := by
  simp only [Rep]
  exact ⟨p, vs, rfl, .inl (.inl upd_same), RepL.move (Mv.same (new_same h)) _ _ r⟩
theorem new_lst {K : Frag} {A : AS} {H : Hp} (ha : ∀ a, A a → H a ≠ none) {ds : List D} {vs : List V} (r : RepL K A H ds vs) {p : Addr} (h : H p = none) : Rep K A (upd H p (.lst vs)) (.lst ds) (.ref p) := by
  simp only [Rep]
  exact ⟨p, vs, rfl, fun z => ha p z h, .inl upd_same, RepL.move (Mv.same (new_same h)) _ _ r⟩
theorem str_app (a b : String) : Str.ofString a ++ Str.ofString b = Str.ofString (a ++ b) := by
  simp only [Str.ofString_eq_toList]
  show Str.append _ _ = _
  simp [Str.append]
theorem lst_at {pins : List (Addr × Obj)} {σ : L2.St} {H : Hp} {s : Shared} (I : Inv X pins σ H s) {a : Addr} {vs : List V} (h : Rd H a (.lst vs)) :
    vs.length ≤ sizeLine ∧ ∃ (its : List Value) (n : Nat), Vals vs its ∧ s.heap.get? a = some { cls := .type "list", data := .seq its.toArray n } := h.ok I.hok
theorem y_add : OpR X (binaryOp .Add) (r2 X.K oadd) := by
  intro pins s σ H x y v u Q I rx ry ⟨A, d1, d2, d, h1, h2, ha, e, k⟩
  cases d1 with
  | int i =>
    cases d2 <;> simp only [oadd, Res.ok.injEq, reduceCtorEq] at e
    subst e
    exact op_add pins s σ H x y v u Q I rx ry ⟨_, _, rep_int h1, rep_int h2, k _ H (Same.refl H) (flat_rep rfl _ _)⟩
  | str i =>
    cases d2 <;> simp only [oadd, Res.ok.injEq, reduceCtorEq] at e
    split at e
    · rename_i j c
      simp only [Res.ok.injEq] at e
      subst e
      refine op_add_str pins s σ H x y v u Q I rx ry ⟨_, _, h1, h2, by rw [str_len, str_len]; exact c, ?_⟩
      rw [str_app]
      exact k _ H (Same.refl H) (flat_rep rfl _ _)
    · cases e
  | tup xs =>
    cases d2 <;> simp only [oadd, Res.ok.injEq, reduceCtorEq] at e
    rename_i ys
    split at e
    · rename_i c
      simp only [Res.ok.injEq] at e
      subst e
      obtain ⟨a, vs, rfl, q1, p1⟩ := (by simpa only [RepW, Rep] using h1 : ∃ a vs, x = .ref a ∧ SqT X.K H a vs ∧ RepL X.K A H xs vs)
      obtain ⟨b, ws, rfl, q2, p2⟩ := (by simpa only [RepW, Rep] using h2 : ∃ a vs, y = .ref a ∧ SqT X.K H a vs ∧ RepL X.K A H ys vs)
      refine op_catA pins s σ H _ _ v u Q I rx ry ⟨a, b, vs, ws, rfl, rfl, q1, q2, by rw [← p1.length, ← p2.length]; exact c, fun z => ?_, fun _ z => ?_, fun _ _ p hp => ?_⟩
      · have z1 := p1.empty.mpr z
        subst z1
        exact k _ H (Same.refl H) h2
      · have z1 := p2.empty.mpr z
        subst z1
        rw [List.append_nil] at k
        exact k _ H (Same.refl H) h1
      · exact k _ _ (new_same hp) (new_tup (p1.append p2) hp)
    · cases e
  | lst xs =>
    cases d2 <;> simp only [oadd, Res.ok.injEq, reduceCtorEq] at e
    rename_i ys
    split at e
    · rename_i c
      simp only [Res.ok.injEq] at e
      subst e
      obtain ⟨a, vs, rfl, q1, p1⟩ := h1
      obtain ⟨b, ws, rfl, q2, p2⟩ := h2
      cases rx
      cases ry
      obtain ⟨z1, its, n, rr1, e1⟩ := lst_at I q1
      obtain ⟨z2, its2, n2, rr2, e2⟩ := lst_at I q2
      have hl1 := rr1.length
      have hl2 := rr2.length
      have hl3 := p1.length
      have hl4 := p2.length
      have hsz : SZ = sizeLine := rfl
      refine PySem.P.add_list e1 e2 ?_ (by rw [List.size_toArray, List.size_toArray]; omega)
      have ea : its.toArray ++ its2.toArray = (its ++ its2).toArray := by simp
      rw [ea]
      exact ⟨.ref _, _, I.lnew (t' := s.toks) (rr1.append rr2) (by rw [List.length_append]; omega), rfl, k _ _ (new_same I.fresh) (new_lst ha (p1.append p2) I.fresh)⟩
    · cases e
  | _ => simp [oadd] at e
end
theorem n_add : NoEx2 oadd := fun x y c fs => by
  cases x <;> cases y <;> simp only [oadd] <;> first | (split <;> exact fun z => nomatch z) | exact fun z => nomatch z
theorem n_sub : NoEx2 osub := fun x y c fs => by cases x <;> cases y <;> exact fun z => nomatch z
theorem n_mul : NoEx2 omul := fun x y c fs => by
  cases x <;> cases y <;> simp only [omul] <;> first | (split <;> exact fun z => nomatch z) | exact fun z => nomatch z
theorem n_fdiv : NoEx2 ofdiv := fun x y c fs => by
  cases x <;> cases y <;> simp only [ofdiv] <;> first | (split <;> exact fun z => nomatch z) | exact fun z => nomatch z
theorem n_mod : NoEx2 omod := fun x y c fs => by
  cases x <;> cases y <;> simp only [omod] <;> first | (split <;> exact fun z => nomatch z) | exact fun z => nomatch z
theorem n_pow : NoEx2 opow := fun x y c fs => by
  cases x <;> cases y <;> simp only [opow] <;> first | (split <;> exact fun z => nomatch z) | exact fun z => nomatch z
theorem n_shl : NoEx2 oshl := fun x y c fs => by
  cases x <;> cases y <;> simp only [oshl] <;> first | (split <;> exact fun z => nomatch z) | exact fun z => nomatch z
theorem n_shr : NoEx2 oshr := fun x y c fs => by
  cases x <;> cases y <;> simp only [oshr] <;> first | (split <;> exact fun z => nomatch z) | exact fun z => nomatch z
theorem n_and : NoEx2 oand := fun x y c fs => by cases x <;> cases y <;> exact fun z => nomatch z
theorem n_or : NoEx2 oor := fun x y c fs => by cases x <;> cases y <;> exact fun z => nomatch z
theorem n_xor : NoEx2 oxor := fun x y c fs => by cases x <;> cases y <;> exact fun z => nomatch z
theorem n_lt : NoEx2 olt := fun x y c fs => by cases x <;> cases y <;> exact fun z => nomatch z
theorem n_le : NoEx2 ole := fun x y c fs => by cases x <;> cases y <;> exact fun z => nomatch z
theorem n_gt : NoEx2 ogt := fun x y c fs => by cases x <;> cases y <;> exact fun z => nomatch z
theorem n_ge : NoEx2 oge := fun x y c fs => by cases x <;> cases y <;> exact fun z => nomatch z
theorem n_neg : NoEx1 oneg := fun x c fs => by cases x <;> exact fun z => nomatch z
theorem n_eq : NoEx2 oeq := fun x y c fs => by
  unfold oeq
  split <;> exact fun z => nomatch z
theorem n_ne : NoEx2 one := fun x y c fs => by
  unfold one
  split <;> exact fun z => nomatch z
theorem n_in : NoEx2 oin := fun x y c fs => by
  cases y <;> simp only [oin] <;> first | (split <;> exact fun z => nomatch z) | exact fun z => nomatch z
theorem n_notin : NoEx2 onotin := fun x y c fs => by
  cases y <;> simp only [onotin] <;> first | (split <;> exact fun z => nomatch z) | exact fun z => nomatch z
end Py
/-! Tests, displays, subscripts, attributes, calls of built-ins. -/
namespace Py
open PySem L2
section
variable {X : Cx} {W : WX} {A : AS} {H0 : Base} {ow : Ow} {a b c : Expr} {ma mb mc : EM} {pos : Pos}
/-! ### truths -/
theorem bl_of {K : Frag} {A : AS} {H : Hp} {k : Bool} {v : V} (h : Rep K A H (.bl k) v) : v = .bl k := h
theorem rep_bl {K : Frag} {A : AS} {H : Hp} {k : Bool} : Rep K A H (.bl k) (.bl k) := rfl
theorem x_and {rest : List Expr} (ha : PE X a (tE X.K W ow ma)) (hb : PE X (.BoolOp .And (b :: rest) pos) (tE X.K W ow mb)) : PE X (.BoolOp .And (a :: b :: rest) pos) (tE X.K W ow (andE ma mb)) :=
  PE.of (pe_and ha hb) fun σ H Q ⟨A, H0, O, en, R, q⟩ => ⟨A, H0, O, en, R, (Out.bind q).good fun d q1 v H1 s1 r1 => by
    cases d with
    | bl k =>
      cases k with
      | true =>
        refine ⟨true, bl_of r1, ?_⟩
        rw [if_pos rfl]
        exact ⟨A, H0, O, en, R.to s1, (q1.to s1).good fun d2 q2 v2 H2 s2 r2 => q2 v2 H2 (s1.trans s2) r2⟩
      | false =>
        refine ⟨false, bl_of r1, ?_⟩
        rw [if_neg (by decide)]
        exact q1 _ _ s1 rep_bl
    | _ => exact q1.elim⟩
theorem x_one {op} (h : PE X a (tE X.K W ow ma)) : PE X (.BoolOp op [a] pos) (tE X.K W ow ma) := pe_one h
/-- not x, of a truth -/
theorem x_not (ha : PE X a (tE X.K W ow ma)) : PE X (.UnaryOp .Not a pos) (tE X.K W ow (un onb ma)) :=
  PE.of (pe_not ha) fun σ H Q ⟨A, H0, O, en, R, q⟩ => ⟨A, H0, O, en, R, (Out.bind q).good fun d q1 v H1 s1 r1 => by
    cases d with
    | bl k => exact ⟨k, bl_of r1, q1 _ _ s1 rep_bl⟩
    | _ => exact q1.elim⟩
theorem x_ifExp {t : TM} (hc : PT X c (tT X.K W ow t)) (ha : PE X a (tE X.K W ow ma)) (hb : PE X b (tE X.K W ow mb)) : PE X (.IfExp c a b pos) (tE X.K W ow (ifE t ma mb)) :=
  PE.of (pe_ifExp hc ha hb) fun σ H Q ⟨A, H0, O, en, R, q⟩ => ⟨A, H0, O, en, R, (Out.bind q).good fun k q1 H1 s1 => by
    cases k with
    | true =>
      rw [if_pos rfl] at q1 ⊢
      exact ⟨A, H0, O, en, R.to s1, (q1.to s1).good fun d2 q2 v2 H2 s2 r2 => q2 v2 H2 (s1.trans s2) r2⟩
    | false =>
      rw [if_neg (by decide)] at q1 ⊢
      exact ⟨A, H0, O, en, R.to s1, (q1.to s1).good fun d2 q2 v2 H2 s2 r2 => q2 v2 H2 (s1.trans s2) r2⟩⟩
theorem chain_of {f g : D → D → Res D} (hf : NoEx2 f) (hg : NoEx2 g) {σ : L2.St} {H : Hp} {Q : VK} (h : tE X.K W ow (chain f g ma mb mc) σ H Q) : tChain (r2 X.K f) (r2 X.K g) (tW X.K W ow ma) (tW X.K W ow mb) (tW X.K W ow mc) σ H Q := by
  obtain ⟨A, H0, O, en, R, q⟩ := h
  refine ⟨A, H0, O, en, R, (Out.bind q).good fun d1 q1 v1 H1 s1 r1 => ⟨A, H0, O, en, R.to s1, ((Out.bind q1).to s1).good fun d2 q2 v2 H2 s2 r2 => ?_⟩⟩
  have R2 := (R.to s1).to s2
  have q3 := Out.bind q2
  cases e : f d1 d2 with
  | exc cc fs => exact absurd e (hf _ _ _ _)
  | stuck =>
    rw [e] at q3
    exact q3.elim
  | ok d =>
    rw [e] at q3
    refine ⟨_, d1, d2, d, r1.move s2, r2, R2.there, e, fun v3 H3 s3 r3 => ?_⟩
    have q4 : Out _ _ _ := q3
    cases d with
    | bl k =>
      cases k with
      | false =>
        refine ⟨false, bl_of r3, ?_⟩
        rw [if_neg (by decide)]
        exact q4 _ _ ((s1.trans s2).trans s3) rep_bl
      | true =>
        refine ⟨true, bl_of r3, ?_⟩
        rw [if_pos rfl]
        refine ⟨A, H0, O, en, R2.to s3, ((Out.bind q4).to ((s1.trans s2).trans s3)).good fun d4 q5 v4 H4 s4 r4 => ?_⟩
        exact r2_of (W := W) (O := O) (σ := σ) (H0 := H0) hg (r2.move (s3.trans s4)) r4 ((R2.to s3).to s4).there (q5.good fun d k v H' s' r => k v H' ((((s1.trans s2).trans s3).trans s4).trans s') r)
    | _ => exact q4.elim
theorem x_chain {op op' : CmpOp} {f g : D → D → Res D} (ho : OpR X (compareOp op) (r2 X.K f)) (ho' : OpR X (compareOp op') (r2 X.K g)) (hf : NoEx2 f) (hg : NoEx2 g)
    (ha : PE X a (tW X.K W ow ma)) (hb : PE X b (tW X.K W ow mb)) (hc : PE X c (tW X.K W ow mc))
    (hm : lastMarks [op, op'] [b, c] = false := by with_unfolding_all rfl) : PE X (.Compare a [op, op'] [b, c] pos) (tE X.K W ow (chain f g ma mb mc)) :=
  PE.of (pe_chain ho ho' ha hb hc hm) fun _ _ _ h => chain_of hf hg h
/-! ### tests -/
theorem trim {K : Frag} {A : AS} {H : Hp} {d : D} {v : V} {k : Bool} (h : RepW K A H d v) (e : truthy d = .ok k) : TruV K v H k := by
  cases d with
  | non =>
    simp only [truthy, Res.ok.injEq] at e
    have h' : v = .non := h
    subst h' e
    rfl
  | bl b =>
    simp only [truthy, Res.ok.injEq] at e
    have h' : v = .bl b := h
    subst h' e
    rfl
  | int i =>
    simp only [truthy, Res.ok.injEq] at e
    have h' : v = .int i := h
    subst h' e
    rfl
  | str s =>
    simp only [truthy] at e
    split at e
    · rename_i cc
      simp only [Res.ok.injEq] at e
      have h' : v = .str (Str.ofString s) := h
      subst h' e
      refine ⟨by rw [str_len]; exact cc, ?_⟩
      rw [str_len]
      cases hh : s.length with
      | zero => rfl
      | succ n =>
        have e1 : (((n + 1 : Nat) : Int) == 0) = false := beq_eq_false_iff_ne.mpr (by omega)
        have e2 : ((n + 1 : Nat) == 0) = false := rfl
        unfold bne
        rw [e1, e2]
    · cases e
  | tup xs =>
    simp only [truthy, Res.ok.injEq] at e
    obtain ⟨a, vs, rfl, q, r⟩ := (by simpa only [RepW, Rep] using h : ∃ a vs, v = .ref a ∧ SqT K H a vs ∧ RepL K A H xs vs)
    refine .inr (.inl ⟨vs, q, ?_⟩)
    subst e
    have hl := r.length
    cases xs <;> cases vs <;> first | rfl | simp at hl
  | lst xs =>
    simp only [truthy, Res.ok.injEq] at e
    obtain ⟨a, vs, rfl, q, r⟩ := h
    refine .inl ⟨vs, .inl q, ?_⟩
    subst e
    have hl := r.length
    cases xs <;> cases vs <;> first | rfl | simp at hl
  | dic _ => simp [truthy] at e
  | ins _ _ => simp [truthy] at e
theorem no_truthy : ∀ d c fs, truthy d ≠ .exc c fs := fun d c fs => by
  cases d <;> simp only [truthy] <;> first | (split <;> exact fun z => nomatch z) | exact fun z => nomatch z
/-- any expression as a test -/
theorem t_tst (ha : PE X a (tW X.K W ow ma)) (he : ∀ whole, isTrue a X.env whole = (do let v ← whole; standAt a.pos; holding [v] (PySem.truthy v))) : PT X a (tT X.K W ow (tst ma)) :=
  PT.of (pt_truth ha he) fun σ H Q ⟨A, H0, O, en, R, q⟩ => ⟨A, H0, O, en, R, (Out.bind q).good fun d q1 v H1 s1 r1 => by
    cases e : Py.truthy d with
    | ok k =>
      rw [e] at q1
      exact ⟨k, trim r1 e, q1 H1 s1⟩
    | exc c fs => exact absurd e (no_truthy _ _ _)
    | stuck =>
      rw [e] at q1
      exact q1.elim⟩
/-- what gives a truth, as a test -/
def Bl (m : EM) : Prop := ∀ e d, m e = .ok d → ∃ k, d = .bl k
theorem Bl.bin {f : D → D → Res D} (h : ∀ x y d, f x y = .ok d → ∃ k, d = .bl k) {ma mb : EM} : Bl (bin f ma mb) := fun e d q => by
  unfold Py.bin at q
  cases e1 : ma e with
  | ok d1 =>
    rw [e1, bind_ok] at q
    cases e2 : mb e with
    | ok d2 =>
      rw [e2, bind_ok] at q
      exact h _ _ _ q
    | exc _ _ => rw [e2] at q; cases q
    | stuck => rw [e2] at q; cases q
  | exc _ _ => rw [e1] at q; cases q
  | stuck => rw [e1] at q; cases q
theorem tst_of {m : EM} (hm : Bl m) {σ : L2.St} {H : Hp} {Q : Bool → Hp → Prop} (h : tT X.K W ow (tst m) σ H Q) : tE X.K W ow m σ H fun x H' => ∃ k, x = .bl k ∧ Q k H' := by
  obtain ⟨A, H0, O, en, R, q⟩ := h
  refine ⟨A, H0, O, en, R, (Out.bind q).imp (fun d e q1 v H1 s1 r1 => ?_) fun _ _ x => x⟩
  obtain ⟨k, rfl⟩ := hm _ _ e
  exact ⟨k, bl_of r1, q1 H1 s1⟩
/-- a comparison as a test -/
theorem t_cmp {op : CmpOp} {f : D → D → Res D} (ho : OpR X (compareOp op) (r2 X.K f)) (hf : NoEx2 f) (hb2 : ∀ x y d, f x y = .ok d → ∃ k, d = .bl k) (ha : PE X a (tW X.K W ow ma)) (hb : PE X b (tW X.K W ow mb)) (hm : behindInMarks op b = false) :
    PT X (.Compare a [op] [b] pos) (tT X.K W ow (tst (bin f ma mb))) :=
  PT.of (pt_cmpR ho ha hb hm) fun _ _ _ h => two_of hf (tst_of (Bl.bin hb2) h)
theorem t_chain {op op' : CmpOp} {f g : D → D → Res D} (ho : OpR X (compareOp op) (r2 X.K f)) (ho' : OpR X (compareOp op') (r2 X.K g)) (hf : NoEx2 f) (hg : NoEx2 g) (hm2 : Bl (chain f g ma mb mc))
    (ha : PE X a (tW X.K W ow ma)) (hb : PE X b (tW X.K W ow mb)) (hc : PE X c (tW X.K W ow mc))
    (hm : lastMarks [op, op'] [b, c] = false := by with_unfolding_all rfl) : PT X (.Compare a [op, op'] [b, c] pos) (tT X.K W ow (tst (chain f g ma mb mc))) :=
  PT.of (pt_chain ho ho' ha hb hc hm) fun _ _ _ h => chain_of hf hg (tst_of hm2 h)
theorem Bl.chain {f g : D → D → Res D} (h : ∀ x y d, g x y = .ok d → ∃ k, d = .bl k) {ma mb mc : EM} : Bl (chain f g ma mb mc) := fun e d q => by
  unfold Py.chain at q
  cases e1 : ma e with
  | ok d1 =>
    rw [e1, bind_ok] at q
    cases e2 : mb e with
    | ok d2 =>
      rw [e2, bind_ok] at q
      cases e3 : f d1 d2 with
      | ok z =>
        rw [e3, bind_ok] at q
        cases z with
        | bl k =>
          cases k with
          | false =>
            simp only [Res.ok.injEq] at q
            exact ⟨false, q.symm⟩
          | true =>
            simp only at q
            cases e4 : mc e with
            | ok d4 =>
              rw [e4, bind_ok] at q
              exact h _ _ _ q
            | exc _ _ => rw [e4] at q; cases q
            | stuck => rw [e4] at q; cases q
        | _ => cases q
      | exc _ _ => rw [e3] at q; cases q
      | stuck => rw [e3] at q; cases q
    | exc _ _ => rw [e2] at q; cases q
    | stuck => rw [e2] at q; cases q
  | exc _ _ => rw [e1] at q; cases q
  | stuck => rw [e1] at q; cases q
theorem b_lt : ∀ x y d, olt x y = .ok d → ∃ k, d = .bl k := fun x y d h => by
  cases x <;> cases y <;> simp only [olt, Res.ok.injEq, reduceCtorEq] at h
  exact ⟨_, h.symm⟩
theorem b_le : ∀ x y d, ole x y = .ok d → ∃ k, d = .bl k := fun x y d h => by
  cases x <;> cases y <;> simp only [ole, Res.ok.injEq, reduceCtorEq] at h
  exact ⟨_, h.symm⟩
theorem b_gt : ∀ x y d, ogt x y = .ok d → ∃ k, d = .bl k := fun x y d h => by
  cases x <;> cases y <;> simp only [ogt, Res.ok.injEq, reduceCtorEq] at h
  exact ⟨_, h.symm⟩
theorem b_ge : ∀ x y d, oge x y = .ok d → ∃ k, d = .bl k := fun x y d h => by
  cases x <;> cases y <;> simp only [oge, Res.ok.injEq, reduceCtorEq] at h
  exact ⟨_, h.symm⟩
theorem b_eq : ∀ x y d, oeq x y = .ok d → ∃ k, d = .bl k := fun x y d h => by
  unfold oeq at h
  split at h <;> simp only [Res.ok.injEq, reduceCtorEq] at h
  exact ⟨_, h.symm⟩
theorem b_ne : ∀ x y d, Py.one x y = .ok d → ∃ k, d = .bl k := fun x y d h => by
  unfold Py.one at h
  split at h <;> simp only [Res.ok.injEq, reduceCtorEq] at h
  exact ⟨_, h.symm⟩
theorem b_in : ∀ x y d, oin x y = .ok d → ∃ k, d = .bl k := fun x y d h => by
  cases y <;> simp only [oin, reduceCtorEq] at h <;> split at h <;> simp only [Res.ok.injEq, reduceCtorEq] at h <;> exact ⟨_, h.symm⟩
theorem b_notin : ∀ x y d, onotin x y = .ok d → ∃ k, d = .bl k := fun x y d h => by
  cases y <;> simp only [onotin, reduceCtorEq] at h <;> split at h <;> simp only [Res.ok.injEq, reduceCtorEq] at h <;> exact ⟨_, h.symm⟩
theorem t_and1 {t : TM} (ha : PT X a (tT X.K W ow t)) : PW X (.BoolOp .And [a] pos) (tT X.K W ow t) := pw_and1 ha
theorem t_or1 {t : TM} (ha : PT X a (tT X.K W ow t)) : PW X (.BoolOp .Or [a] pos) (tT X.K W ow t) := pw_or1 ha
theorem t_and {t u : TM} {rest : List Expr} (ha : PT X a (tT X.K W ow t)) (hb : PW X (.BoolOp .And (b :: rest) pos) (tT X.K W ow u)) : PW X (.BoolOp .And (a :: b :: rest) pos) (tT X.K W ow (andT t u)) :=
  PW.of (pw_and ha hb) fun σ H Q ⟨A, H0, O, en, R, q⟩ => ⟨A, H0, O, en, R, (Out.bind q).good fun k q1 H1 s1 => by
    cases k with
    | true =>
      rw [if_pos rfl] at q1 ⊢
      exact ⟨A, H0, O, en, R.to s1, (q1.to s1).good fun d2 q2 H2 s2 => q2 H2 (s1.trans s2)⟩
    | false =>
      rw [if_neg (by decide)] at q1 ⊢
      exact q1 H1 s1⟩
theorem t_or {t u : TM} {rest : List Expr} (ha : PT X a (tT X.K W ow t)) (hb : PW X (.BoolOp .Or (b :: rest) pos) (tT X.K W ow u)) : PW X (.BoolOp .Or (a :: b :: rest) pos) (tT X.K W ow (orT t u)) :=
  PW.of (pw_or ha hb) fun σ H Q ⟨A, H0, O, en, R, q⟩ => ⟨A, H0, O, en, R, (Out.bind q).good fun k q1 H1 s1 => by
    cases k with
    | false =>
      rw [if_neg (by decide)] at q1 ⊢
      exact ⟨A, H0, O, en, R.to s1, (q1.to s1).good fun d2 q2 H2 s2 => q2 H2 (s1.trans s2)⟩
    | true =>
      rw [if_pos rfl] at q1 ⊢
      exact q1 H1 s1⟩
theorem t_not {t : TM} (ha : PT X a (tT X.K W ow t)) : PT X (.UnaryOp .Not a pos) (tT X.K W ow (notT t)) :=
  PT.of (pt_not ha) fun σ H Q ⟨A, H0, O, en, R, q⟩ => ⟨A, H0, O, en, R, (Out.bind q).good fun k q1 H1 s1 => q1 H1 s1⟩
/-! ### is None, is True -/
theorem isN_v {K : Frag} {A : AS} {H : Hp} {d : D} {v : V} (h : RepW K A H d v) : decide (v = .non) = isNon d := by
  cases d with
  | non =>
    have h' : v = .non := h
    subst h'
    rfl
  | bl b =>
    have h' : v = .bl b := h
    subst h'
    rfl
  | int b =>
    have h' : v = .int b := h
    subst h'
    rfl
  | str b =>
    have h' : v = .str (Str.ofString b) := h
    subst h'
    rfl
  | tup xs =>
    obtain ⟨a, vs, rfl, q, r⟩ := (by simpa only [RepW, Rep] using h : ∃ a vs, v = .ref a ∧ SqT K H a vs ∧ RepL K A H xs vs)
    rfl
  | lst xs =>
    obtain ⟨a, vs, rfl, q, r⟩ := h
    rfl
  | dic _ _ =>
    obtain ⟨a, rfl, _⟩ := h
    rfl
  | ins _ _ =>
    obtain ⟨a, dx, fvs, rfl, _⟩ := h
    rfl
theorem x_isN {j pos'} (ha : PE X a (tW X.K W ow ma)) : PE X (.Compare a [.Is] [.Constant .none j pos'] pos) (tE X.K W ow (un oisN ma)) :=
  PE.of (pe_cmp (pc_isN ha)) fun σ H Q ⟨A, H0, O, en, R, q⟩ => ⟨A, H0, O, en, R, (Out.bind q).good fun d q1 v H1 s1 r1 => by
    dsimp only
    rw [isN_v r1]
    exact q1 _ _ s1 rep_bl⟩
theorem Bl.un {f : D → Res D} (h : ∀ x d, f x = .ok d → ∃ k, d = .bl k) {ma : EM} : Bl (un f ma) := fun e d q => by
  unfold Py.un at q
  cases e1 : ma e with
  | ok d1 =>
    rw [e1, bind_ok] at q
    exact h _ _ q
  | exc _ _ => rw [e1] at q; cases q
  | stuck => rw [e1] at q; cases q
theorem b_isN : ∀ x d, oisN x = .ok d → ∃ k, d = .bl k := fun x d h => ⟨_, (Res.ok.inj h).symm⟩
theorem b_notN : ∀ x d, onotN x = .ok d → ∃ k, d = .bl k := fun x d h => ⟨_, (Res.ok.inj h).symm⟩
theorem t_isN {j pos'} (ha : PE X a (tW X.K W ow ma)) : PT X (.Compare a [.Is] [.Constant .none j pos'] pos) (tT X.K W ow (tst (un oisN ma))) :=
  PT.of (pt_cmp (pc_isN ha)) fun σ H Q h => by
    obtain ⟨A, H0, O, en, R, q⟩ := tst_of (Bl.un b_isN) h
    refine ⟨A, H0, O, en, R, (Out.bind q).good fun d q1 v H1 s1 r1 => ?_⟩
    dsimp only
    rw [isN_v r1]
    exact q1 _ _ s1 rep_bl
theorem t_notN {j pos'} (ha : PE X a (tW X.K W ow ma)) : PT X (.Compare a [.IsNot] [.Constant .none j pos'] pos) (tT X.K W ow (tst (un onotN ma))) :=
  PT.of (pt_cmp (pc_notN ha)) fun σ H Q h => by
    obtain ⟨A, H0, O, en, R, q⟩ := tst_of (Bl.un b_notN) h
    refine ⟨A, H0, O, en, R, (Out.bind q).good fun d q1 v H1 s1 r1 => ?_⟩
    dsimp only
    rw [isN_v r1]
    exact q1 _ _ s1 rep_bl
end
end Py
/-! Displays, subscripts, attributes, calls of built-ins. -/
namespace Py
open PySem L2 PySem.Spec PyProof.Rows
/-- values and data, one by one -/
theorem paired_rep {K : Frag} {A : AS} {H : Hp} : ∀ {vs : List V} {ds : List D}, Paired (fun v d => Rep K A H d v) vs ds → RepL K A H ds vs
  | _, _, .nil => by simp [RepL]
  | _, _, .cons r t => by
    simp only [RepL]
    exact ⟨_, _, rfl, r, paired_rep t⟩
theorem paired_none {K : Frag} {A : AS} {H : Hp} : ∀ {vs : List V} {ds : List D}, Paired (fun v d => RepW K A H d v) vs ds → RepL K (fun _ => False) H ds vs
  | _, _, .nil => by simp [RepL]
  | _, _, .cons r t => by
    simp only [RepL]
    exact ⟨_, _, rfl, RepW.none r, paired_none t⟩
section
variable {X : Cx} {W : WX} {A : AS} {H0 : Base} {ow : Ow} {a b c e : Expr} {es : List Expr} {m ma mb mc : EM} {am : AM} {pos : Pos}
/-! ### argument lists -/
abbrev aE (K : Frag) := tA (Rep K) K
abbrev aW (K : Frag) := tA (RepW K) K
theorem xa_nil {R : RR} : PA X [] (tA R X.K W ow argN) := PA.of pa_nil fun σ H Q ⟨A, H0, O, en, R', q⟩ => q [] H (Same.refl H) .nil
theorem xa_cons (ha : PE X e (tE X.K W ow m)) (hr : PA X es (aE X.K W ow am)) (hs : starEach (e :: es) X.env = (false, eval e X.env) :: starEach es X.env := by rfl) : PA X (e :: es) (aE X.K W ow (argC m am)) :=
  PA.of (pa_cons ha hr hs) fun σ H Q ⟨A, H0, O, en, R, q⟩ => ⟨A, H0, O, en, R, (Out.bind q).good fun d q1 v H1 s1 r1 => ⟨A, H0, O, en, R.to s1, ((Out.bind q1).to s1).good fun ds q2 vs H2 s2 r2 =>
    q2 (v :: vs) H2 (s1.trans s2) (.cons (Rep.move (Mv.same s2) _ _ r1) r2)⟩⟩
theorem xw_cons (ha : PE X e (tW X.K W ow m)) (hr : PA X es (aW X.K W ow am)) (hs : starEach (e :: es) X.env = (false, eval e X.env) :: starEach es X.env := by rfl) : PA X (e :: es) (aW X.K W ow (argC m am)) :=
  PA.of (pa_cons ha hr hs) fun σ H Q ⟨A, H0, O, en, R, q⟩ => ⟨A, H0, O, en, R, (Out.bind q).good fun d q1 v H1 s1 r1 => ⟨A, H0, O, en, R.to s1, ((Out.bind q1).to s1).good fun ds q2 vs H2 s2 r2 =>
    q2 (v :: vs) H2 (s1.trans s2) (.cons (RepW.move s2 r1) r2)⟩⟩
/-! ### displays -/
theorem x_tup {x1} (h : PA X es (aE X.K W ow am)) : PE X (.Tuple es x1 pos) (tE X.K W ow (tupE am)) :=
  PE.of (pe_tup h) fun σ H Q ⟨A, H0, O, en, R, q⟩ => ⟨A, H0, O, en, R, (Out.bind q).good fun ds q1 vs H1 s1 r1 => by
    have rl := paired_rep r1
    unfold chk at q1
    split at q1
    · rename_i z
      exact ⟨by rw [← rl.length]; exact z, fun p hp => q1 _ _ (s1.trans (new_same hp)) (new_tup rl hp)⟩
    · exact q1.elim⟩
theorem f_lst (h : PA X es (aE X.K W ow am)) : PE X (.List es pos) (tF X.K W ow (lstE am)) :=
  PE.of (pe_lst h) fun σ H Q ⟨A, H0, O, en, R, q⟩ => ⟨A, H0, O, en, R, (Out.bind q).good fun ds q1 vs H1 s1 r1 => by
    have rl := paired_rep r1
    unfold chk at q1
    split at q1
    · rename_i z
      refine ⟨by rw [← rl.length]; exact z, fun p hp => q1 p _ (s1.free hp) (s1.trans (new_same hp)) ⟨vs, upd_same, ?_⟩⟩
      refine RepL.move ⟨fun b hb => ?_, fun b o e _ => new_same hp b o e⟩ _ _ rl
      rcases hb with hb | rfl
      · exact .inl hb
      · exact .inr hp
    · exact q1.elim⟩
/-! ### subscripts -/
def r2n (K : Frag) (f : D → D → Res D) : R2 := fun x y H Q => ∃ A d1 d2 d, isDic d1 = false ∧ RepW K A H d1 x ∧ RepW K A H d2 y ∧ (∀ a, A a → H a ≠ none) ∧ f d1 d2 = .ok d ∧ ∀ v H', Same H H' → Rep K A H' d v → Q v H'
theorem y_idx0 : IxR X (r2n X.K oidx) := by
  intro value slice pins s σ H x y v u Q I rx ry ⟨A, d1, d2, d, hnd, h1, h2, ha, e, k⟩ hs
  cases d1 with
  | lst xs =>
    cases d2 <;> simp only [oidx, reduceCtorEq] at e
    rename_i i
    obtain ⟨a, vs, rfl, q, r⟩ := h1
    unfold opt at e
    split at e
    · rename_i d' he
      simp only [Res.ok.injEq] at e
      subst e
      unfold atI at he
      cases hj : ixN xs.length i with
      | none => rw [hj] at he; cases he
      | some j =>
        rw [hj] at he
        obtain ⟨w, hw, rw'⟩ := r.get (show xs[j]? = some d' from he)
        refine ix_list value slice pins s σ H _ _ v u Q I rx ry ⟨a, vs, i, w, rfl, h2, .inl q, ?_, k w H (Same.refl H) rw'⟩ hs
        unfold atI
        rw [← r.length, hj]
        exact hw
    · cases e
  | tup xs =>
    cases d2 <;> simp only [oidx, reduceCtorEq] at e
    rename_i i
    obtain ⟨a, vs, rfl, q, r⟩ := (by simpa only [RepW, Rep] using h1 : ∃ a vs, x = .ref a ∧ SqT X.K H a vs ∧ RepL X.K A H xs vs)
    unfold opt at e
    split at e
    · rename_i d' he
      simp only [Res.ok.injEq] at e
      subst e
      unfold atI at he
      cases hj : ixN xs.length i with
      | none => rw [hj] at he; cases he
      | some j =>
        rw [hj] at he
        obtain ⟨w, hw, rw'⟩ := r.get (show xs[j]? = some d' from he)
        refine ix_tup value slice pins s σ H _ _ v u Q I rx ry ⟨a, vs, i, w, rfl, h2, q, ?_, k w H (Same.refl H) rw'⟩ hs
        unfold atI
        rw [← r.length, hj]
        exact hw
    · cases e
  | str z =>
    cases d2 <;> simp only [oidx, reduceCtorEq] at e
    rename_i i
    split at e
    · rename_i hz
      have h1' : x = .str (Str.ofString z) := h1
      have h2' : y = .int i := h2
      subst h1' h2'
      unfold opt at e
      split at e
      · rename_i d' he
        simp only [Res.ok.injEq] at e
        subst e
        unfold atI at he
        cases hj : ixN z.toList.length i with
        | none => rw [hj] at he; cases he
        | some j =>
          rw [hj] at he
          have he1 : Option.map (fun c => D.str (String.ofList [c])) (z.toList[j]?) = some d' := he
          cases hc : z.toList[j]? with
          | none => rw [hc] at he1; cases he1
          | some ch =>
            rw [hc] at he1
            have he2 : D.str (String.ofList [ch]) = d' := Option.some.inj he1
            subst he2
            have e1 : (Str.ofString z).cps.toList = z.toList.map Char.toNat := by rw [Str.ofString_eq_toList]
            refine ix_str value slice pins s σ H _ _ v u Q I rx ry ⟨_, i, ch.toNat, rfl, rfl, by rw [str_len]; exact hz, ?_, ?_⟩ hs
            · unfold atI
              rw [e1, List.length_map, hj]
              show (List.map Char.toNat z.toList)[j]? = _
              rw [List.getElem?_map, hc]
              rfl
            · have e2 : Str.ofString (String.ofList [ch]) = ⟨#[ch.toNat]⟩ := by
                rw [Str.ofString_eq_toList, String.toList_ofList]
                rfl
              rw [← e2]
              exact k _ H (Same.refl H) rfl
      · cases e
    · cases e
  | dic t kvs => simp [isDic] at hnd
  | _ => simp [oidx] at e
theorem y_idx (hu : X.A.units + 16 < cLine) : IxR X (r2 X.K oidx) := by
  intro value slice pins s σ H x y v u Q I rx ry ⟨A, d1, d2, d, h1, h2, ha, e, k⟩ hs
  cases hnd : isDic d1 with
  | false => exact y_idx0 value slice pins s σ H x y v u Q I rx ry ⟨A, d1, d2, d, hnd, h1, h2, ha, e, k⟩ hs
  | true =>
    cases d1 <;> simp only [isDic, reduceCtorEq] at hnd
    rename_i t kvs
    simp only [oidx] at e
    split at e
    · rename_i hk
      obtain ⟨a, rfl, g⟩ := h1
      cases (show v = Value.ref a from rx)
      have h2' : Rep X.K A H d2 y := by
        cases d2 <;> first | exact h2 | (cases t <;> simp [keyOk] at hk)
      unfold opt at e
      split at e
      · rename_i d' hf
        simp only [Res.ok.injEq] at e
        subst e
        exact tail_any (dic_type I g) slot_dict_getitem.lookup (dic_get hu I g hk h2' ry hf fun v w' s' I' r' rv => ⟨v, H, I', r', k v H (Same.refl H) rv⟩) hs
      · cases e
    · cases e
theorem n_idx : NoEx2 oidx := fun x y c fs => by
  have ho : ∀ o, opt o ≠ .exc c fs := fun o => by cases o <;> exact fun z => nomatch z
  cases x <;> cases y <;> simp only [oidx] <;> first | exact ho _ | (split <;> first | exact ho _ | exact fun z => nomatch z) | exact fun z => nomatch z
theorem x_idx (hi : IxR X (r2 X.K oidx)) (ha : PE X a (tW X.K W ow ma)) (hb : PE X b (tW X.K W ow mb)) (hs : PlainIx b := by exact fun _ _ => rfl) : PE X (.Subscript a b pos) (tE X.K W ow (bin oidx ma mb)) :=
  PE.of (pe_ix hi ha hb hs) fun _ _ _ h => two_of n_idx h
/-! ### slices -/
theorem RepL.cut {K : Frag} {A : AS} {H : Hp} {ds : List D} {vs : List V} (h : RepL K A H ds vs) (lo hi : Option Int) : RepL K A H (Py.cut ds lo hi) (cutV vs lo hi) := by
  unfold Py.cut cutV
  rw [h.length]
  exact (h.drop _).take _
def rS (K : Frag) : V → Option Int → Option Int → Hp → VK → Prop := fun x lo hi H Q => ∃ A d1 d, RepW K A H d1 x ∧ (∀ a, A a → H a ≠ none) ∧ oslc d1 lo hi = .ok d ∧ ∀ v H', Same H H' → Rep K A H' d v → Q v H'
theorem cut_all {α : Type} {xs : List α} {lo hi : Option Int} (h : HT.sIx xs.length 0 lo = 0 ∧ HT.sIx xs.length xs.length hi = xs.length) : Py.cut xs lo hi = xs := by
  unfold Py.cut
  rw [h.1, h.2]
  simp
theorem y_slc : SlR X (rS X.K) := by
  intro pins s σ H x v vl vu lo hi sl Q I rx hs pl' pu h
  obtain ⟨A, d1, d, h1, ha, e, k⟩ := h
  cases d1 with
  | lst xs =>
    simp only [oslc, Res.ok.injEq] at e
    subst e
    obtain ⟨a, vs, rfl, q, r⟩ := h1
    exact sl_list pins s σ H _ v vl vu lo hi sl Q I rx hs pl' pu ⟨a, vs, rfl, .inl q, fun p hp => k _ _ (new_same hp) (new_lst ha (r.cut lo hi) hp)⟩
  | tup xs =>
    simp only [oslc, Res.ok.injEq] at e
    subst e
    obtain ⟨a, vs, rfl, q, r⟩ := (by simpa only [RepW, Rep] using h1 : ∃ a vs, x = .ref a ∧ SqT X.K H a vs ∧ RepL X.K A H xs vs)
    refine sl_tupA pins s σ H _ v vl vu lo hi sl Q I rx hs pl' pu ⟨a, vs, rfl, q, fun z => ?_, fun _ p hp => k _ _ (new_same hp) (new_tup (r.cut lo hi) hp)⟩
    rw [← r.length] at z
    rw [cut_all z] at k
    exact k _ H (Same.refl H) h1
  | str z =>
    simp only [oslc] at e
    split at e
    · rename_i hz
      simp only [Res.ok.injEq] at e
      subst e
      have h1' : x = .str (Str.ofString z) := h1
      subst h1'
      refine sl_str pins s σ H _ v vl vu lo hi sl Q I rx hs pl' pu ⟨_, rfl, by rw [str_len]; exact hz, ?_⟩
      have e1 : cutS (Str.ofString z) lo hi = Str.ofString (String.ofList (Py.cut z.toList lo hi)) := by
        rw [Str.ofString_eq_toList (String.ofList _), String.toList_ofList]
        unfold cutS Py.cut
        rw [str_len]
        rw [Str.ofString_eq_toList]
        simp [List.map_take, List.map_drop, String.length_toList]
      rw [e1]
      exact k _ H (Same.refl H) rfl
    · cases e
  | _ => simp [oslc] at e
end
end Py
/-! Slices as expressions, attributes, calls of built-ins, isinstance. -/
namespace Py
open PySem L2
/-! ### own classes: what isinstance and attributes ask -/
def tyNames : List String := ["NoneType", "bool", "int", "str", "tuple", "list", "dict"]
def kitB (K : Frag) (cs : List String) : Bool :=
  cs.all fun c => (He.Fa.cls (Str.ofString c)).ok K
    && (decide (PySem.W.findIn K (.ref (ca K c)) "__class__" = some (some (.builtin "object.__class__")))
    && (decide (PySem.W.specialIn K (.builtin "object.__class__") "__get__" = some (some (.builtin "getset_descriptor.__get__")))
    && (decide (PySem.W.takesIn K (.builtin "object.__class__") = some true)
    && (decide (PySem.W.mroIn K (ca K c) (.type "object") = some true)
    && (cs.all (fun d => decide (PySem.W.kitOne K (.ref (ca K c)) (.ref (ca K d)) = some (decide (c = d))))
    && tyNames.all fun T => decide (PySem.W.kitOne K (.ref (ca K c)) (.type T) = some false) && decide (PySem.W.kitOne K (.type T) (.ref (ca K c)) = some false))))))
structure KitC (K : Frag) (cs : List String) (c : String) : Prop where
  cl : Cls K (ca K c)
  ha : PySem.W.findIn K (.ref (ca K c)) "__class__" = some (some (.builtin "object.__class__"))
  hn : PySem.W.specialIn K (.builtin "object.__class__") "__get__" = some (some (.builtin "getset_descriptor.__get__"))
  ht : PySem.W.takesIn K (.builtin "object.__class__") = some true
  hm : PySem.W.mroIn K (ca K c) (.type "object") = some true
  oo : ∀ d ∈ cs, PySem.W.kitOne K (.ref (ca K c)) (.ref (ca K d)) = some (decide (c = d))
  ob : ∀ T ∈ tyNames, PySem.W.kitOne K (.ref (ca K c)) (.type T) = some false
  bo : ∀ T ∈ tyNames, PySem.W.kitOne K (.type T) (.ref (ca K c)) = some false
def KitF (K : Frag) (cs : List String) : Prop := ∀ c ∈ cs, KitC K cs c
theorem kit_of_b {K : Frag} {cs : List String} (h : kitB K cs = true) : KitF K cs := fun c hc => by
  have h1 := List.all_eq_true.mp h c hc
  simp only [Bool.and_eq_true, decide_eq_true_eq, List.all_eq_true] at h1
  obtain ⟨a1, a2, a3, a4, a5, a6, a7⟩ := h1
  exact ⟨He.cls_ok a1, a2, a3, a4, a5, a6, fun T hT => (a7 T hT).1, fun T hT => (a7 T hT).2⟩
def tyN : Ty → String
  | .non => "NoneType" | .bl => "bool" | .int => "int" | .str => "str" | .tup => "tuple" | .lst => "list" | .dic => "dict" | .cls c => c
def tyV (K : Frag) : Ty → V
  | .cls c => .ref (ca K c)
  | t => .ty (tyN t)
def tyU (K : Frag) : Ty → Value
  | .cls c => .ref (ca K c)
  | t => .type (tyN t)
theorem ty_cls (K : Frag) (t : Ty) : ClsV (tyV K t) (tyU K t) := by
  cases t <;> first | exact .ty _ | exact .own _
theorem isI_ty (t : Ty) (d : D) (h : t ≠ .non) : isI t d = (decide (t = tyOf d) || (decide (tyOf d = .bl) && decide (t = .int))) := by
  cases d <;> cases t <;> simp [isI, tyOf] at h ⊢
theorem kit_one {K : Frag} {cs : List String} (F : KitF K cs) {t : Ty} {d : D} (h1 : inCs cs t = true) (h2 : inCs cs (tyOf d) = true) (hn : t ≠ .non) : PySem.W.kitOne K (tyU K (tyOf d)) (tyU K t) = some (isI t d) := by
  rw [isI_ty t d hn]
  cases ht : t with
  | cls c =>
    subst ht
    have hc : c ∈ cs := by simpa [inCs] using h1
    cases hd : tyOf d with
    | cls c' =>
      rw [hd] at h2
      have hc' : c' ∈ cs := by simpa [inCs] using h2
      have := (F c' hc').oo c hc
      show PySem.W.kitOne K (.ref (ca K c')) (.ref (ca K c)) = _
      rw [this]
      by_cases q : c = c'
      · subst q
        simp
      · have q2 : ¬ c' = c := fun z => q z.symm
        simp [q, q2]
    | _ =>
      show PySem.W.kitOne K (.type _) (.ref (ca K c)) = _
      rw [(F c hc).bo _ (by decide)]
      simp
  | non => exact absurd ht hn
  | _ =>
    cases hd : tyOf d with
    | cls c' =>
      rw [hd] at h2
      have hc' : c' ∈ cs := by simpa [inCs] using h2
      show PySem.W.kitOne K (.ref (ca K c')) (.type _) = _
      rw [(F c' hc').ob _ (by decide)]
      simp
    | _ => exact L2.kit_ty (by rw [← show tyN _ = _ from rfl]; decide +kernel)
theorem tyx_of {K : Frag} {cs : List String} (F : KitF K cs) {A : AS} {H : Hp} {d : D} {v : V} (h : RepW K A H d v) (h2 : inCs cs (tyOf d) = true) : TyX K H v (tyU K (tyOf d)) := by
  cases d with
  | non =>
    have h' : v = .non := h
    subst h'
    exact .base .non
  | bl b =>
    have h' : v = .bl b := h
    subst h'
    exact .base (.bl _)
  | int b =>
    have h' : v = .int b := h
    subst h'
    exact .base (.int _)
  | str b =>
    have h' : v = .str (Str.ofString b) := h
    subst h'
    exact .base (.str _)
  | tup xs =>
    obtain ⟨a, vs, rfl, q, r⟩ := (by simpa only [RepW, Rep] using h : ∃ a vs, v = .ref a ∧ SqT K H a vs ∧ RepL K A H xs vs)
    rcases q with (q | ⟨o, q⟩) | ⟨o, its, n, q1, q2, _⟩
    · exact .base (.tup q)
    · exact .fTuple q
    · exact .kTuple q1 q2
  | lst xs =>
    obtain ⟨a, vs, rfl, q, r⟩ := h
    rcases q with q | ⟨o, q⟩
    · exact .base (.lst q)
    · exact .base (.frz q)
  | dic _ _ => simp [inCs, tyOf] at h2
  | ins c fs =>
    obtain ⟨a, dx, fvs, rfl, q, _⟩ := h
    have hc : c ∈ cs := by simpa [inCs, tyOf] using h2
    have k := F c hc
    exact .base (.ins q k.cl k.ha k.hn k.ht k.hm)
/-- isinstance(x, (t1, t2, ..)) -/
theorem n_isi {cs : List String} {ts : List Ty} : NoEx1 (oisi cs ts) := fun x c fs => by
  unfold oisi
  split <;> exact fun z => nomatch z
theorem isi_ok {cs : List String} {ts : List Ty} {d r : D} (h : oisi cs ts d = .ok r) : inCs cs (tyOf d) = true ∧ (∀ t ∈ ts, inCs cs t = true ∧ t ≠ .non) ∧ r = .bl (ts.any fun t => isI t d) := by
  unfold oisi at h
  split at h
  · rename_i c
    simp only [Bool.and_eq_true, List.all_eq_true, decide_eq_true_eq] at c
    simp only [Res.ok.injEq] at h
    exact ⟨c.1, c.2, h.symm⟩
  · cases h
theorem kit_any {K : Frag} {cs : List String} (F : KitF K cs) {d : D} (h2 : inCs cs (tyOf d) = true) : ∀ {ts : List Ty}, (∀ t ∈ ts, inCs cs t = true ∧ t ≠ .non) → PySem.W.kitAny K (tyU K (tyOf d)) (ts.map (tyU K)) = some (ts.any fun t => isI t d)
  | [], _ => rfl
  | t :: ts, h => by
    obtain ⟨a1, a2⟩ := h t (by simp)
    simp only [List.map_cons, List.any_cons]
    refine L2.kitAny_cons (kit_one F a1 h2 a2) (fun e => ?_) fun e => by rw [e]; rfl
    rw [e, Bool.false_or]
    exact kit_any F h2 fun t' h' => h t' (by simp [h'])
theorem RepL.reverse {K : Frag} {A : AS} {H : Hp} : ∀ {ds : List D} {vs : List V}, RepL K A H ds vs → RepL K A H ds.reverse vs.reverse
  | [], vs, h => by
    simp only [RepL] at h
    subst h
    simp [RepL]
  | d :: ds, vs, h => by
    simp only [RepL] at h
    obtain ⟨v, r, rfl, h1, h2⟩ := h
    simp only [List.reverse_cons]
    exact (RepL.reverse h2).append (RepL.one h1)
section
variable {X : Cx} {W : WX} {A : AS} {H0 : Base} {ow : Ow} {a b c e : Expr} {es : List Expr} {m ma mb mc : EM} {am : AM} {pos : Pos}
theorem x_isi1 {cs : List String} {t : Ty} {x : Str} {p : Pos} (hx : x = "isinstance") (F : KitF X.K cs) (hg : Gl X x) (hm : X.mg x = none) (ha : PE X a (tW X.K W ow ma)) (hb : PE X b (tC (tyV X.K t)))
    (hs : starEach [a, b] X.env = (false, eval a X.env) :: starEach [b] X.env := by rfl) (hs2 : starEach [b] X.env = [(false, eval b X.env)] := by rfl) (hpl : (backTo pos (starEach [b] X.env)).any (·.1) = false := by rfl) :
    PE X (.Call (.Name x p) [a, b] [] pos) (tE X.K W ow (un (oisi cs [t]) ma)) := by
  subst hx
  refine PE.of (pe_callB call_isi hg hm (by decide +kernel) (pa_cons ha (pa_cons hb pa_nil hs2) hs) (by decide) (by decide) hs hpl) fun σ H Q ⟨A, H0, O, en, R, q⟩ => ⟨A, H0, O, en, R, (Out.bind q).good fun d q1 v H1 s1 r1 => ?_⟩
  cases e : oisi cs [t] d with
  | exc _ _ => exact absurd e (n_isi _ _ _)
  | stuck =>
    rw [e] at q1
    exact q1.elim
  | ok r =>
    rw [e] at q1
    obtain ⟨h1, h2, rfl⟩ := isi_ok e
    obtain ⟨h3, h4⟩ := h2 t (by simp)
    refine ⟨v, tyV X.K t, tyU X.K (tyOf d), tyU X.K t, isI t d, rfl, ty_cls _ _, tyx_of F r1 h1, kit_one F h3 h1 h4, ?_⟩
    have q2 := q1 (.bl ([t].any fun t => isI t d)) H1 s1 rep_bl
    simpa using q2
/-- a tuple of classes as written -/
inductive TyL (X : Cx) : List Expr → List Ty → TA → Prop
  | nil : TyL X [] [] tNil
  | cons {e : Expr} {es : List Expr} {t : Ty} {ts : List Ty} {r : TA} (h : PE X e (tC (tyV X.K t))) (k : TyL X es ts r) (hs : starEach (e :: es) X.env = (false, eval e X.env) :: starEach es X.env) : TyL X (e :: es) (t :: ts) (tCons (tC (tyV X.K t)) r)
theorem TyL.pa {es : List Expr} {ts : List Ty} {r : TA} (h : TyL X es ts r) : PA X es r := by
  induction h with
  | nil => exact pa_nil
  | cons h _ hs ih => exact pa_cons h ih hs
theorem TyL.run {es : List Expr} {ts : List Ty} {r : TA} (h : TyL X es ts r) : ∀ {σ : L2.St} {H : Hp} {Q : List V → Hp → Prop}, Q (ts.map (tyV X.K)) H → r σ H Q := by
  induction h with
  | nil => exact fun q => q
  | cons h _ hs ih => exact fun q => ih (Q := fun xs H2 => _) q
theorem ty_all (K : Frag) : ∀ ts : List Ty, Paired ClsV (ts.map (tyV K)) (ts.map (tyU K))
  | [] => .nil
  | t :: ts => .cons (ty_cls K t) (ty_all K ts)
theorem x_isiT {cs : List String} {ts : List Ty} {r : TA} {x : Str} {p tp : Pos} {tk} (hx : x = "isinstance") (F : KitF X.K cs) (hg : Gl X x) (hm : X.mg x = none) (ha : PE X a (tW X.K W ow ma)) (hb : TyL X es ts r) (hz : ts.length ≤ 20)
    (hs : starEach [a, .Tuple es tk tp] X.env = (false, eval a X.env) :: starEach [.Tuple es tk tp] X.env := by rfl) (hs2 : starEach [.Tuple es tk tp] X.env = [(false, eval (.Tuple es tk tp) X.env)] := by rfl) (hpl : (backTo pos (starEach [.Tuple es tk tp] X.env)).any (·.1) = false := by rfl) :
    PE X (.Call (.Name x p) [a, .Tuple es tk tp] [] pos) (tE X.K W ow (un (oisi cs ts) ma)) := by
  subst hx
  refine PE.of (pe_callB call_isiT hg hm (by decide +kernel) (pa_cons ha (pa_cons (pe_tup hb.pa) pa_nil hs2) hs) (by decide) (by decide) hs hpl) fun σ H Q ⟨A, H0, O, en, R, q⟩ => ⟨A, H0, O, en, R, (Out.bind q).good fun d q1 v H1 s1 r1 => ?_⟩
  cases e : oisi cs ts d with
  | exc _ _ => exact absurd e (n_isi _ _ _)
  | stuck =>
    rw [e] at q1
    exact q1.elim
  | ok r =>
    rw [e] at q1
    obtain ⟨h1, h2, rfl⟩ := isi_ok e
    refine hb.run ⟨by rw [List.length_map]; exact Nat.le_trans hz (by decide), fun p hp => ?_⟩
    exact ⟨v, p, ts.map (tyV X.K), tyU X.K (tyOf d), ts.map (tyU X.K), _, rfl, upd_same, ty_all _ _, tyx_of F (r1.move (new_same hp)) h1, kit_any F h1 h2, q1 _ _ (s1.trans (new_same hp)) rep_bl⟩
/-! ### attributes -/
theorem x_attr {cs : List String} {f : String} (F : ∀ c ∈ cs, Cls X.K (ca X.K c) ∧ NoAttr X.K (ca X.K c) (Str.ofString f)) (ha : PE X a (tW X.K W ow ma))
    (hb : attributeBase a (Str.ofString f) X.env (eval a X.env) = eval a X.env := by rfl) : PE X (.Attribute a (Str.ofString f) pos) (tE X.K W ow (un (oattr cs f) ma)) :=
  PE.of (pe_fld ha hb) fun σ H Q ⟨A, H0, O, en, R, q⟩ => ⟨A, H0, O, en, R, (Out.bind q).good fun d q1 v H1 s1 r1 => by
    cases d with
    | ins c fs =>
      simp only [oattr] at q1
      split at q1
      · rename_i hc
        obtain ⟨h1, h2⟩ := F c (by simpa using hc)
        obtain ⟨p, dx, fvs, rfl, q2, r2⟩ := r1
        have lk := r2.look (f := f)
        cases hl : fs.lookup f with
        | none =>
          rw [hl] at q1
          exact q1.elim
        | some d' =>
          rw [hl] at q1 lk
          obtain ⟨v', e1, r'⟩ := lk
          exact ⟨p, _, dx, fvs, v', rfl, q2, h1, h2, e1, q1 v' H1 s1 r'⟩
      · exact q1.elim
    | _ => exact q1.elim⟩
/-! ### slices -/
/-- a part of a slice -/
def tO (K : Frag) (W : WX) (ow : Ow) (m : Option EM) : TO := fun σ H Q => ∃ A H0 O e, ER K A H0 ow O σ H e ∧
  Out (slc.bnd m e) (fun o => ∀ H', Same H H' → Q o H') (badE K W A O σ H)
theorem o_none : PO X none (tO X.K W ow none) := ⟨fun pins s σ H Q I ⟨A, H0, O, en, R, q⟩ => po_none.run pins s σ H Q I (q H (Same.refl H))⟩
theorem o_some (h : PE X e (tE X.K W ow m)) : PO X (some e) (tO X.K W ow (some m)) := ⟨fun pins s σ H Q I ⟨A, H0, O, en, R, q⟩ => (po_some h).run pins s σ H Q I ⟨A, H0, O, en, R, (Out.bind q).good fun d q1 v H1 s1 r1 => by
  cases d with
  | int i => exact ⟨i, r1, q1 H1 s1⟩
  | _ => exact q1.elim⟩⟩
theorem x_slc {lo hi : Option Expr} {ml mh : Option EM} {p2 : Pos} (ha : PE X a (tW X.K W ow ma)) (hl : PO X lo (tO X.K W ow ml)) (hh : PO X hi (tO X.K W ow mh)) : PE X (.Subscript a (.Slice lo hi none p2) pos) (tE X.K W ow (slc ma ml mh)) :=
  PE.of (pe_slice y_slc ha hl hh) fun σ H Q ⟨A, H0, O, en, R, q⟩ => ⟨A, H0, O, en, R, (Out.bind q).good fun d q1 v H1 s1 r1 => ⟨A, H0, O, en, R.to s1, ((Out.bind q1).to s1).good fun i q2 H2 s2 => ⟨A, H0, O, en, (R.to s1).to s2, ((Out.bind q2).to (s1.trans s2)).good fun j q3 H3 s3 => by
    cases e : oslc d i j with
    | ok z =>
      rw [e] at q3
      exact ⟨_, d, z, r1.move (s2.trans s3), (((R.to s1).to s2).to s3).there, e, fun v' H' s' r' => q3 v' H' (((s1.trans s2).trans s3).trans s') r'⟩
    | exc c fs =>
      exfalso
      cases d <;> simp only [oslc, reduceCtorEq] at e
      split at e <;> cases e
    | stuck =>
      rw [e] at q3
      exact q3.elim⟩⟩⟩
/-! ### built-in calls -/
def c1 (K : Frag) (f : D → Res D) : List V → Hp → VK → Prop := fun vs H Q => ∃ x, vs = [x] ∧ r1 K f x H Q
def c2 (K : Frag) (f : D → D → Res D) : List V → Hp → VK → Prop := fun vs H Q => ∃ x y, vs = [x, y] ∧ r2 K f x y H Q
theorem cimp {f : Value} {r r' : List V → Hp → VK → Prop} (h : CallR X f r) (k : ∀ x H Q, r' x H Q → r x H Q) : CallR X f r' := fun pins s σ H xs us Q I rx q => h pins s σ H xs us Q I rx (k xs H Q q)
theorem x_b1 {id : String} {x : Str} {p : Pos} {f : D → Res D} (hc : CallR X (.builtin id) (c1 X.K f)) (hf : NoEx1 f) (hg : Gl X x) (hm : X.mg x = none) (hv : bootBuiltins x = some (.builtin id)) (ha : PE X a (tW X.K W ow ma)) (hn : x ≠ "__name__" := by decide) (hdb : (x == ("__debug__" : Str)) = false := by decide)
    (hs : starEach [a] X.env = [(false, eval a X.env)] := by rfl) : PE X (.Call (.Name x p) [a] [] pos) (tE X.K W ow (un f ma)) :=
  PE.of (pe_callB hc hg hm hv (pa_cons ha pa_nil hs) hn hdb hs (by rfl)) fun σ H Q h => by
    obtain ⟨A, H0, O, en, R, q⟩ := one_of hf h
    exact ⟨A, H0, O, en, R, q.good fun d k v H' s r => ⟨v, rfl, k v H' s r⟩⟩
theorem x_t1 {id : String} {x : Str} {p : Pos} {f : D → Res D} (hc : CallR X (.type id) (c1 X.K f)) (hf : NoEx1 f) (hg : Gl X x) (hm : X.mg x = none) (hv : bootBuiltins x = some (.type id)) (ha : PE X a (tW X.K W ow ma)) (hn : x ≠ "__name__" := by decide) (hdb : (x == ("__debug__" : Str)) = false := by decide)
    (hs : starEach [a] X.env = [(false, eval a X.env)] := by rfl) : PE X (.Call (.Name x p) [a] [] pos) (tE X.K W ow (un f ma)) :=
  PE.of (pe_callTy hc hg hm hv (pa_cons ha pa_nil hs) hn hdb hs (by rfl)) fun σ H Q h => by
    obtain ⟨A, H0, O, en, R, q⟩ := one_of hf h
    exact ⟨A, H0, O, en, R, q.good fun d k v H' s r => ⟨v, rfl, k v H' s r⟩⟩
theorem v_len0 : CallR X (.builtin "len") (fun vs H Q => ∃ x, vs = [x] ∧ ∃ A d1 d, isDic d1 = false ∧ RepW X.K A H d1 x ∧ blen d1 = .ok d ∧ ∀ v H', Same H H' → Rep X.K A H' d v → Q v H') := cimp call_len fun xs H Q ⟨x, e0, A, d1, d, hnd, h1, e, k⟩ => by
  subst e0
  cases d1 with
  | str s =>
    simp only [blen] at e
    split at e
    · rename_i hz
      simp only [Res.ok.injEq] at e
      subst e
      have h' : x = .str (Str.ofString s) := h1
      subst h'
      exact ⟨_, s.length, rfl, ⟨by rw [str_len]; exact hz, (str_len s).symm⟩, k _ H (Same.refl H) (flat_rep rfl _ _)⟩
    · cases e
  | tup xs =>
    simp only [blen, Res.ok.injEq] at e
    subst e
    obtain ⟨a, vs, rfl, q, r⟩ := (by simpa only [RepW, Rep] using h1 : ∃ a vs, x = .ref a ∧ SqT X.K H a vs ∧ RepL X.K A H xs vs)
    refine ⟨_, xs.length, rfl, .inr ⟨vs, q, r.length⟩, k _ H (Same.refl H) (flat_rep rfl _ _)⟩
  | lst xs =>
    simp only [blen, Res.ok.injEq] at e
    subst e
    obtain ⟨a, vs, rfl, q, r⟩ := h1
    refine ⟨_, xs.length, rfl, .inl ⟨vs, .inl q, r.length⟩, k _ H (Same.refl H) (flat_rep rfl _ _)⟩
  | dic t kvs => simp [isDic] at hnd
  | _ => simp [blen] at e
theorem v_len : CallR X (.builtin "len") (c1 X.K blen) := fun pins s σ H xs us Q I rx ⟨x, e0, A, d1, d, h1, ha, e, k⟩ => by
  cases hnd : isDic d1 with
  | false => exact v_len0 pins s σ H xs us Q I rx ⟨x, e0, A, d1, d, hnd, h1, e, k⟩
  | true =>
    cases d1 <;> simp only [isDic, reduceCtorEq] at hnd
    simp only [blen, Res.ok.injEq] at e
    subst e
    obtain ⟨a, rfl, g⟩ := h1
    subst e0
    cases rx with
    | cons r rr =>
      cases rr
      cases (show _ = Value.ref a from r)
      exact dic_len I g RepT.len RepK.len fun t' s' I' => ⟨.int _, H, I', ⟨t', rfl⟩, k _ H (Same.refl H) (flat_rep rfl _ _)⟩
theorem n_len : NoEx1 blen := fun x c fs => by
  cases x <;> simp only [blen] <;> first | (split <;> exact fun z => nomatch z) | exact fun z => nomatch z
theorem v_int : CallR X (.type "int") (c1 X.K bint) := cimp call_int1 fun xs H Q ⟨x, e0, A, d1, d, h1, _, e, k⟩ => by
  subst e0
  cases d1 with
  | int i =>
    simp only [bint, Res.ok.injEq] at e
    subst e
    have h' : x = .int i := h1
    subst h'
    exact .inl ⟨i, rfl, k _ H (Same.refl H) (flat_rep rfl _ _)⟩
  | bl b =>
    simp only [bint, Res.ok.injEq] at e
    subst e
    have h' : x = .bl b := h1
    subst h'
    exact .inr ⟨b, rfl, k _ H (Same.refl H) (flat_rep rfl _ _)⟩
  | _ => simp [bint] at e
theorem n_int : NoEx1 bint := fun x c fs => by cases x <;> exact fun z => nomatch z
theorem v_tuple : CallR X (.type "tuple") (c1 X.K btuple) := cimp call_tuple_of fun xs H Q ⟨x, e0, A, d1, d, h1, ha, e, k⟩ => by
  subst e0
  cases d1 with
  | lst xs =>
    simp only [btuple, Res.ok.injEq] at e
    subst e
    obtain ⟨a, vs, rfl, q, r⟩ := h1
    exact ⟨a, vs, rfl, .inl ⟨.inl q, fun l hl => k _ _ (new_same hl) (new_tup r hl)⟩⟩
  | tup xs =>
    simp only [btuple, Res.ok.injEq] at e
    subst e
    obtain ⟨a, vs, rfl, q, r⟩ := (by simpa only [RepW, Rep] using h1 : ∃ a vs, x = .ref a ∧ SqT X.K H a vs ∧ RepL X.K A H xs vs)
    exact ⟨a, vs, rfl, .inr ⟨q, k _ H (Same.refl H) h1⟩⟩
  | _ => simp [btuple] at e
theorem n_tuple : NoEx1 btuple := fun x c fs => by cases x <;> exact fun z => nomatch z
theorem ints_of {K : Frag} {A : AS} {H : Hp} : ∀ {ds : List D} {vs : List V} {is : List Int}, RepL K A H ds vs → intsOf ds = some is → vs = is.map V.int
  | [], vs, is, h, e => by
    simp only [RepL] at h
    simp only [intsOf, Option.some.injEq] at e
    subst h e
    rfl
  | d :: ds, vs, is, h, e => by
    simp only [RepL] at h
    obtain ⟨v, r, rfl, h1, h2⟩ := h
    cases d with
    | int i =>
      simp only [intsOf] at e
      cases q : intsOf ds with
      | none => rw [q] at e; cases e
      | some js =>
        rw [q] at e
        have e2 : i :: js = is := Option.some.inj e
        subst e2
        have h1' : v = .int i := h1
        rw [h1', ints_of h2 q]
        rfl
    | _ => simp [intsOf] at e
theorem bools_of {K : Frag} {A : AS} {H : Hp} : ∀ {ds : List D} {vs : List V} {is : List Bool}, RepL K A H ds vs → boolsOf ds = some is → vs = is.map V.bl
  | [], vs, is, h, e => by
    simp only [RepL] at h
    simp only [boolsOf, Option.some.injEq] at e
    subst h e
    rfl
  | d :: ds, vs, is, h, e => by
    simp only [RepL] at h
    obtain ⟨v, r, rfl, h1, h2⟩ := h
    cases d with
    | bl i =>
      simp only [boolsOf] at e
      cases q : boolsOf ds with
      | none => rw [q] at e; cases e
      | some js =>
        rw [q] at e
        have e2 : i :: js = is := Option.some.inj e
        subst e2
        have h1' : v = .bl i := h1
        rw [h1', bools_of h2 q]
        rfl
    | _ => simp [boolsOf] at e
theorem v_sum (hc : X.calm = true) : CallR X (.builtin "sum") (c1 X.K bsum) := cimp (cr_sum hc) fun xs H Q ⟨x, e0, A, d1, d, h1, ha, e, k⟩ => by
  subst e0
  cases d1 with
  | lst xs =>
    simp only [bsum] at e
    split at e
    · rename_i is hi
      simp only [Res.ok.injEq] at e
      subst e
      obtain ⟨a, vs, rfl, q, r⟩ := h1
      have e1 := ints_of r hi
      subst e1
      exact ⟨a, is, rfl, .inl q, k _ H (Same.refl H) (flat_rep rfl _ _)⟩
    · cases e
  | _ => simp [bsum] at e
theorem v_all (hc : X.calm = true) : CallR X (.builtin "all") (c1 X.K ball) := cimp (cr_all hc) fun xs H Q ⟨x, e0, A, d1, d, h1, ha, e, k⟩ => by
  subst e0
  cases d1 with
  | lst xs =>
    simp only [ball] at e
    split at e
    · rename_i is hi
      simp only [Res.ok.injEq] at e
      subst e
      obtain ⟨a, vs, rfl, q, r⟩ := h1
      have e1 := bools_of r hi
      subst e1
      exact ⟨a, is, rfl, .inl q, k _ H (Same.refl H) (flat_rep rfl _ _)⟩
    · cases e
  | _ => simp [ball] at e
theorem n_sum : NoEx1 bsum := fun x c fs => by
  cases x <;> simp only [bsum] <;> first | (split <;> exact fun z => nomatch z) | exact fun z => nomatch z
theorem n_all : NoEx1 ball := fun x c fs => by
  cases x <;> simp only [ball] <;> first | (split <;> exact fun z => nomatch z) | exact fun z => nomatch z
theorem x_bits {apos : Pos} (ha : PE X a (tW X.K W ow ma)) (hbase : attributeBase a "bit_length" X.env (eval a X.env) = eval a X.env := by rfl) (hline : (apos.endLine == pos.line) = true := by rfl) : PE X (.Call (.Attribute a "bit_length" apos) [] [] pos) (tE X.K W ow (un bbits ma)) :=
  PE.of (pe_bits ha hbase hline) fun σ H Q ⟨A, H0, O, en, R, q⟩ => ⟨A, H0, O, en, R, (Out.bind q).good fun d q1 v H1 s1 r1 => by
    cases d with
    | int i => exact ⟨i, r1, q1 _ H1 s1 (flat_rep rfl _ _)⟩
    | _ => exact q1.elim⟩
/-- list(x) as a new list -/
theorem f_list {x : Str} {p : Pos} (hx : x = "list") (hg : Gl X x) (hm : X.mg x = none) (ha : PE X a (tW X.K W ow ma)) (hs : starEach [a] X.env = [(false, eval a X.env)] := by rfl) : PE X (.Call (.Name x p) [a] [] pos) (tF X.K W ow (un blist ma)) := by
  subst hx
  refine PE.of (pe_callTy call_list_of hg hm (by decide +kernel) (pa_cons ha pa_nil hs) (by decide) (by decide) hs (by rfl)) fun σ H Q ⟨A, H0, O, en, R, q⟩ => ⟨A, H0, O, en, R, (Out.bind q).good fun d q1 v H1 s1 r1 => ?_⟩
  cases d with
  | lst xs =>
    obtain ⟨a, vs, rfl, q, r⟩ := r1
    exact ⟨a, vs, rfl, .inl (.inl q), fun l hl => q1 l _ (s1.free hl) (s1.trans (new_same hl)) ⟨vs, upd_same, RepL.move ⟨fun b hb => hb.elim .inl fun z => by subst z; exact .inr hl, fun b o e _ => new_same hl b o e⟩ _ _ r⟩⟩
  | tup xs =>
    obtain ⟨a, vs, rfl, q, r⟩ := (by simpa only [RepW, Rep] using r1 : ∃ a vs, v = .ref a ∧ SqT X.K H1 a vs ∧ RepL X.K (AO A O) H1 xs vs)
    exact ⟨a, vs, rfl, .inr q, fun l hl => q1 l _ (s1.free hl) (s1.trans (new_same hl)) ⟨vs, upd_same, RepL.move ⟨fun b hb => hb.elim .inl fun z => by subst z; exact .inr hl, fun b o e _ => new_same hl b o e⟩ _ _ r⟩⟩
  | _ => exact q1.elim
end
end Py
/-! What is walked, targets, comprehensions. -/
namespace Py
open PySem L2
/-- J gives the data xs, one a turn, as long as the heap moves so -/
def Itm (M : AS → Hp → AS → Hp → Prop) (K : Frag) (A : AS) (J : It) (xs : List D) (H : Hp) : Prop := ∀ i A2 H2, M A H A2 H2 →
  (i < xs.length → J.go i H2 ∧ ∀ x H3, J.yld i H2 x H3 → Same H2 H3 ∧ ∃ d, xs[i]? = some d ∧ Rep K A2 H3 d x) ∧ (i = xs.length → J.stop i H2)
/-- .. as it only grows -/
def Gr (A : AS) (H : Hp) (A' : AS) (H' : Hp) : Prop := (∀ a, A' a → A a ∨ H a = none) ∧ Same H H'
theorem Gr.mv {A A' : AS} {H H' : Hp} (h : Gr A H A' H') : Mv A H A' H' := ⟨h.1, fun a o e _ => h.2 a o e⟩
abbrev MvT := AS → Hp → AS → Hp → Prop
theorem Itm.gr {K : Frag} {A : AS} {J : It} {xs : List D} {H : Hp} (h : Itm Mv K A J xs H) : Itm Gr K A J xs H := fun i A2 H2 m => h i A2 H2 m.mv
def tI (M : MvT) (K : Frag) (W : WX) (ow : Ow) (m : IM) : TI := fun σ H R => ∃ A H0 O e, ER K A H0 ow O σ H e ∧
  Out (m e) (fun xs => ∀ J H', Same H H' → Itm M K (AO A O) J xs H' → R J H') (badE K W A O σ H)
theorem PI.of {X : Cx} {tg iter : Expr} {t t' : TI} (h : PI X tg iter t) (k : ∀ σ H R, t' σ H R → t σ H R) : PI X tg iter t' := ⟨fun pins s σ H R I q => h.run pins s σ H R I (k σ H R q)⟩
section
variable {X : Cx} {W : WX} {A : AS} {H0 : Base} {ow : Ow} {tg a b c e : Expr} {es : List Expr} {m ma mb mc : EM} {am : AM} {pos p : Pos}
/-- a list or a tuple -/
theorem pi_either {l : Expr} {tl : TE} (hl : PE X l tl) : PI X tg l (fun σ H R => tl σ H fun x H1 => ∃ a, x = .ref a ∧ ((∃ xs, SqL X.K H1 a xs ∧ R (Itl X.K a) H1) ∨ ∃ xs, SqT X.K H1 a xs ∧ R (Itt X.K a) H1)) := by
  refine ⟨fun pins s σ H R I h => ?_⟩
  refine thn (hl.run pins s σ H _ I h) fun v s1 ⟨x, H1, I1, r1, q1⟩ => ?_
  obtain ⟨a, e, q⟩ := q1
  subst e
  cases r1
  have fin : ∀ b ∈ [s1.heap.objs.size], FpOk X pins H1 b := fun b hb => by
    have e : b = s1.heap.objs.size := by simpa using hb
    subst e
    exact I1.fpOk (Nat.le_refl _) (I1.hok.fresh (Nat.le_refl _))
  rcases q with ⟨xs, hq, q⟩ | ⟨xs, hq, q⟩
  · obtain ⟨its, rv, p, hz⟩ := I1.list hq
    refine wpAny_pyIter_list p.isList ?_
    exact ⟨s1.heap.objs.size, [s1.heap.objs.size], _, _, H1, rfl, I1.kept (t' := s1.toks) fun b o e => Heap.get?_push_of_some _ e, turn_list a _, ⟨_, Heap.get?_push_size _ rfl, rfl, rfl⟩, fin, q⟩
  · obtain ⟨its, rv, p, hz⟩ := I1.tuple hq
    refine wpAny_pyIter_tuple (show s1.heap.IsTuple a its.toArray from p) ?_
    exact ⟨s1.heap.objs.size, [s1.heap.objs.size], _, _, H1, rfl, I1.kept (t' := s1.toks) fun b o e => Heap.get?_push_of_some _ e, turn_tuple a _, ⟨_, Heap.get?_push_size _ rfl, rfl, rfl⟩, fin, q⟩
theorem itm_tup {K : Frag} {A : AS} {H : Hp} {a : Addr} {ds : List D} {vs : List V} (q : SqT K H a vs) (r : RepL K A H ds vs) : Itm Mv K A (Itt K a) ds H := fun i A2 H2 m => by
  have q2 := SqT.move m q
  have r2 := RepL.move m ds vs r
  refine ⟨fun hi => ?_, fun hi => ⟨vs, q2, by rw [← r.length]; exact Nat.le_of_eq hi.symm⟩⟩
  obtain ⟨v, hv, rv⟩ := r2.get (i := i) (List.getElem?_eq_getElem hi)
  refine ⟨⟨vs, v, q2, hv⟩, fun x H3 ⟨e, k⟩ => ?_⟩
  subst e
  have := k vs q2
  rw [hv] at this
  cases this
  exact ⟨Same.refl _, _, List.getElem?_eq_getElem hi, rv⟩
theorem itm_lst {M : MvT} {K : Frag} {A : AS} {H : Hp} {a : Addr} {ds : List D} {vs : List V} (hM : ∀ A2 H2, M A H A2 H2 → Mv A H A2 H2 ∧ Rd H2 a (.lst vs)) (r : RepL K A H ds vs) : Itm M K A (Itl K a) ds H := fun i A2 H2 m => by
  obtain ⟨mv, rd⟩ := hM A2 H2 m
  have q2 : SqL K H2 a vs := .inl rd
  have r2 := RepL.move mv ds vs r
  refine ⟨fun hi => ?_, fun hi => ⟨vs, q2, by rw [← r.length]; exact Nat.le_of_eq hi.symm⟩⟩
  obtain ⟨v, hv, rv⟩ := r2.get (i := i) (List.getElem?_eq_getElem hi)
  refine ⟨⟨vs, v, q2, hv⟩, fun x H3 ⟨e, k⟩ => ?_⟩
  subst e
  have := k vs q2
  rw [hv] at this
  cases this
  exact ⟨Same.refl _, _, List.getElem?_eq_getElem hi, rv⟩
/-- for a for: a clean list or tuple -/
theorem i_seq (ha : PE X a (tE X.K W ow ma)) : PI X tg a (tI Mv X.K W ow (iseq ma)) :=
  PI.of (pi_either ha) fun σ H R' ⟨A, H0, O, en, R, q⟩ => ⟨A, H0, O, en, R, (Out.bind q).good fun d q1 v H1 s1 r1 => by
    cases d with
    | lst xs =>
      obtain ⟨p, vs, rfl, n, h, r⟩ := (by simpa only [Rep] using r1 : ∃ a vs, v = .ref a ∧ ¬ AO A O a ∧ Rd H1 a (.lst vs) ∧ RepL X.K (AO A O) H1 xs vs)
      exact ⟨p, rfl, .inl ⟨vs, .inl h, q1 _ H1 s1 (itm_lst (fun A2 H2 m => ⟨m, (Rd.move m h n).1⟩) r)⟩⟩
    | tup xs =>
      obtain ⟨p, vs, rfl, h, r⟩ := (by simpa only [Rep] using r1 : ∃ a vs, v = .ref a ∧ SqT X.K H1 a vs ∧ RepL X.K (AO A O) H1 xs vs)
      exact ⟨p, rfl, .inr ⟨vs, h, q1 _ H1 s1 (itm_tup h r)⟩⟩
    | _ => exact q1.elim⟩
theorem i_gr {it : IM} (h : PI X tg a (tI Mv X.K W ow it)) : PI X tg a (tI Gr X.K W ow it) :=
  PI.of h fun σ H R' ⟨A, H0, O, en, R, q⟩ => ⟨A, H0, O, en, R, q.good fun xs k J H' s i => k J H' s i.gr⟩
theorem itm_range {K : Frag} {A : AS} {H : Hp} {lo hi : Int} : Itm Mv K A (Itr lo (hi - lo).toNat) (rngL lo hi) H := fun i A2 H2 m => by
  have hl : (rngL lo hi).length = (hi - lo).toNat := by unfold rngL; simp
  rw [hl]
  refine ⟨fun h => ⟨h, fun x H3 ⟨e1, e2⟩ => ?_⟩, fun h => Nat.le_of_eq h.symm⟩
  subst e1 e2
  refine ⟨Same.refl _, .int (lo + (i : Nat)), ?_, rfl⟩
  unfold rngL
  rw [List.getElem?_map, List.getElem?_range h]
  rfl
theorem nb62 {n : Int} (h : n.natAbs < B62) : -(2 : Int) ^ 62 ≤ n ∧ n < 2 ^ 62 := by
  have e : (2 : Int) ^ 62 = 4611686018427387904 := by decide
  rw [e]
  unfold B62 at h
  omega
theorem rng1_of {σ : L2.St} {H : Hp} {R' : It → Hp → Prop} (h : tI Mv X.K W ow (irng1 ma) σ H R') : iRng1 (tCons (tE X.K W ow ma) tNil) σ H R' := by
  obtain ⟨A, H0, O, en, R, q⟩ := h
  refine ⟨A, H0, O, en, R, (Out.bind q).good fun d q1 v H1 s1 r1 => ?_⟩
  cases d with
  | int n =>
    simp only at q1
    split at q1
    · rename_i z
      have r1' : v = .int n := r1
      subst r1'
      refine ⟨n, rfl, (nb62 z).1, (nb62 z).2, ?_⟩
      have k := q1 (Itr 0 (n - 0).toNat) H1 s1 itm_range
      have e : n - 0 = n := Int.sub_zero n
      rw [e] at k
      exact k
    · exact q1.elim
  | _ => exact q1.elim
theorem i_rng1 (hg : Gl X "range") (hm : X.mg "range" = none) (ha : PE X a (tE X.K W ow ma)) (hs : starEach [a] X.env = [(false, eval a X.env)] := by rfl) : PI X tg (.Call (.Name "range" p) [a] [] pos) (tI Mv X.K W ow (irng1 ma)) :=
  PI.of (pi_range1 hg hm (pa_cons ha pa_nil hs) hs) fun σ H R' h => rng1_of h
/-! ### targets -/
/-- a target: ts are the slots that it sets -/
def tGt (K : Frag) (ow : Ow) (ts : List Nat) (g : GM) : TG := fun v σ H Q => ∃ A H0 O e d e', ER K A H0 ow O σ H e ∧ Rep K (AO A O) H d v ∧ g d e = some e' ∧
  ∀ σ', ER K A H0 ow O σ' H e' → σ'.length = σ.length → (∀ j, j ∉ ts → σ'[j]? = σ[j]?) → Q σ' H
theorem PG.of {tg : Expr} {t t' : TG} (h : PG X tg t) (k : ∀ v σ H Q, t' v σ H Q → t v σ H Q) : PG X tg t' := ⟨fun pins s σ H v u Q I r q => h.run pins s σ H v u Q I r (k v σ H Q q)⟩
theorem g_nm {i : Nat} (h : PG X tg (gName i)) (hi : ow i = false) : PG X tg (tGt X.K ow [i] (gnm i)) :=
  PG.of h fun v σ H Q ⟨A, H0, O, en, d, e', R, r, g, q⟩ => by
    cases g
    exact q _ (R.set hi r) (by simp) fun j hj => by
      have : i ≠ j := fun z => hj (by simp [z])
      rw [List.getElem?_set_ne this]
def tGts (K : Frag) (ow : Ow) (ts : List Nat) (gs : List GM) : TGs := fun vs σ H Q => ∃ A H0 O e ds e', ER K A H0 ow O σ H e ∧ RepL K (AO A O) H ds vs ∧ gtupL gs ds e = some e' ∧
  ∀ σ', ER K A H0 ow O σ' H e' → σ'.length = σ.length → (∀ j, j ∉ ts → σ'[j]? = σ[j]?) → Q σ' H
theorem PGs.of {tg : List Expr} {t t' : TGs} (h : PGs X tg t) (k : ∀ v σ H Q, t' v σ H Q → t v σ H Q) : PGs X tg t' := ⟨fun pins s σ H v u Q I r q => h.run pins s σ H v u Q I r (k v σ H Q q)⟩
theorem gs_nil : PGs X [] (tGts X.K ow [] []) := PGs.of pgs_nil fun vs σ H Q ⟨A, H0, O, en, ds, e', R, r, g, q⟩ => by
  cases ds with
  | nil =>
    simp only [RepL] at r
    subst r
    cases g
    exact ⟨rfl, q σ R rfl fun _ _ => rfl⟩
  | cons d ds => cases g
theorem gs_cons {ts us : List Nat} {g : GM} {gs : List GM} (h1 : PG X e (tGt X.K ow ts g)) (h2 : PGs X es (tGts X.K ow us gs))
    (hs : (assignEach (e :: es) X.env).map (·.2) = assign e X.env :: (assignEach es X.env).map (·.2) := by rfl) : PGs X (e :: es) (tGts X.K ow (ts ++ us) (g :: gs)) :=
  PGs.of (pgs_cons h1 h2 hs) fun vs σ H Q ⟨A, H0, O, en, ds, e', R, r, ge, q⟩ => by
    cases ds with
    | nil => cases ge
    | cons d ds =>
      simp only [RepL] at r
      obtain ⟨v, r', rfl, r1, r2⟩ := r
      simp only [gtupL] at ge
      cases e1 : g d en with
      | none => rw [e1] at ge; cases ge
      | some en1 =>
        rw [e1] at ge
        refine ⟨v, r', rfl, A, H0, O, en, d, en1, R, r1, e1, fun σ1 R1 l1 k1 => ⟨A, H0, O, en1, ds, e', R1, r2, ge, fun σ2 R2 l2 k2 => q σ2 R2 (l2.trans l1) fun j hj => ?_⟩⟩
        rw [k2 j fun z => hj (by simp [z]), k1 j fun z => hj (by simp [z])]
theorem gtupL_len : ∀ {gs : List GM} {ds : List D} {e e' : Env}, gtupL gs ds e = some e' → ds.length = gs.length
  | [], [], _, _, _ => rfl
  | [], _ :: _, _, _, h => by cases h
  | _ :: _, [], _, _, h => by cases h
  | g :: gs, d :: ds, e, e', h => by
    simp only [gtupL] at h
    cases e1 : g d e with
    | none => rw [e1] at h; cases h
    | some e2 =>
      rw [e1] at h
      simp only [List.length_cons]
      rw [gtupL_len (show gtupL gs ds e2 = some e' from h)]
theorem g_tup {ts : List Nat} {gs : List GM} {n k : Nat} (hc : X.calm = true) (h : PGs X es (tGts X.K ow ts gs)) (hn : (assignEach es X.env).length = n := by rfl) (hl : gs.length = n := by rfl)
    (hst : (assignEach es X.env).findIdx? (·.1) = none := by rfl) : PG X (.Tuple es k pos) (tGt X.K ow ts (gtup gs)) :=
  PG.of (pg_tup hc h hn hst) fun v σ H Q ⟨A, H0, O, en, d, e', R, r, g, q⟩ => by
    cases d with
    | tup xs =>
      obtain ⟨a, vs, rfl, h, r⟩ := (by simpa only [Rep] using r : ∃ a vs, v = .ref a ∧ SqT X.K H a vs ∧ RepL X.K (AO A O) H xs vs)
      exact ⟨a, vs, rfl, h, by rw [← r.length, ← hl]; exact gtupL_len g, A, H0, O, en, xs, e', R, r, g, q⟩
    | _ => cases g
/-! ### comprehensions -/
abbrev W0 : WX := fun _ _ _ _ => False
theorem wipe_eq : ∀ {vs : List Nat} {σ σ' : L2.St}, σ'.length = σ.length → (∀ j, j ∉ vs → σ'[j]? = σ[j]?) → L2.wipe σ' vs = L2.wipe σ vs := fun {vs σ σ'} hl h => by
  apply List.ext_getElem?
  intro i
  by_cases hi : i ∈ vs
  · have key : ∀ (us : List Nat) (τ : L2.St), i ∈ us → (L2.wipe τ us)[i]? = if i < τ.length then some none else none := by
      intro us τ
      induction us with
      | nil => intro h; cases h
      | cons u us ih =>
        intro hm
        unfold L2.wipe
        by_cases hu : u = i
        · subst hu
          rw [List.getElem?_set]
          simp only [if_true, L2.wipe_length]
        · rw [List.getElem?_set_ne hu]
          exact ih (by
            rcases List.mem_cons.mp hm with z | z
            · exact absurd z.symm hu
            · exact z)
    rw [key vs σ' hi, key vs σ hi, hl]
  · rw [L2.wipe_out hi, L2.wipe_out hi]
    exact h i hi
theorem compL_drop {f : D → Res (Option D)} {xs : List D} {i : Nat} {ys : List D} (hi : i < xs.length) (h : compL f (xs.drop i) = .ok ys) :
    ∃ o zs, f xs[i] = .ok o ∧ compL f (xs.drop (i + 1)) = .ok zs ∧ ys = match o with | some y => y :: zs | none => zs := by
  rw [List.drop_eq_getElem_cons hi] at h
  simp only [compL] at h
  cases e1 : f xs[i] with
  | ok o =>
    rw [e1, bind_ok] at h
    cases e2 : compL f (xs.drop (i + 1)) with
    | ok zs =>
      rw [e2, bind_ok] at h
      exact ⟨o, zs, rfl, rfl, (Res.ok.inj h).symm⟩
    | exc _ _ => rw [e2] at h; cases h
    | stuck => rw [e2] at h; cases h
  | exc _ _ => rw [e1] at h; cases h
  | stuck => rw [e1] at h; cases h
theorem noexc_of {α β : Type} {r : Res α} {k : α → Res β} {good : β → Prop} {bad : String → List (String × D) → Prop} (h : Out (noexc r >>= k) good bad) : ∃ a, r = .ok a ∧ Out (k a) good bad := by
  cases r with
  | ok a => exact ⟨a, rfl, h⟩
  | exc c fs => exact h.elim
  | stuck => exact h.elim
theorem ER.more {K : Frag} {A A' : AS} {H0 : Base} {ow : Ow} {O : OW} {σ : L2.St} {H H' : Hp} {e : Env} (R : ER K A H0 ow O σ H e) (h0 : ∀ a, A' a → H' a ≠ none) (s : Same H H') (hA : ∀ a, A' a → A a ∨ H a = none) (hA2 : ∀ a, A a → A' a) : ER K A' H0 ow O σ H' e := by
  have mv : Mv (AO A O) H (AO A' O) H' := ⟨fun a ha => by
    rcases ha with ha | ha
    · rcases hA a ha with z | z
      · exact .inl (.inl z)
      · exact .inr z
    · exact .inl (.inr ha), fun a o e _ => s a o e⟩
  refine ⟨R.len, h0, R.same.trans s, fun i d h1 h2 => ?_, fun i d h1 h2 => ?_, fun i a h => ⟨(R.fresh i a h).1, ne_none s (R.fresh i a h).2.1, fun z => (hA a z).elim (R.fresh i a h).2.2 (R.fresh i a h).2.1⟩, R.inj, R.pin, R.exq.heap mv fun da fvs e => s _ _ e⟩
  · obtain ⟨v, q, r⟩ := R.vals i d h1 h2
    exact ⟨v, q, Rep.move mv _ _ r⟩
  · obtain ⟨a, q, q2, r⟩ := R.owns i d h1 h2
    refine ⟨a, q, q2, r.move mv ?_⟩
    cases z : H a with
    | none => exact absurd z (R.fresh i a q).2.1
    | some o => exact s a o z
/-- [elt for tg in iter if test]; vs: the block's own names, ts: those that the target sets -/
theorem lc_of {K : Frag} {it : IM} {vs ts : List Nat} {g : GM} {t : TM} {elt : EM} (hx : ow.x = none) (hts : ∀ j ∈ ts, j ∈ vs) {σ : L2.St} {H : Hp} {Q : VK} (h : tF K W ow (lcE it vs g t elt) σ H Q) :
    tLc (tI Gr K W ow it) (tGt K ow ts g) (tT K W0 ow t) (tE K W0 ow elt) vs σ H Q := by
  obtain ⟨A, H0, O, en, R, q⟩ := h
  refine ⟨A, H0, O, en, R, (Out.bind q).good fun xs q1 J H1 s1 itm D hD => ?_⟩
  obtain ⟨ys, hys, q2⟩ := noexc_of q1
  by_cases hsz : xs.length ≤ SZ
  case neg =>
    unfold chk at q2
    rw [if_neg hsz] at q2
    exact q2.elim
  unfold chk at q2
  rw [if_pos hsz] at q2
  have hsl : SZ = sizeLine := rfl
  have R1 := R.to s1
  have hAD : ¬ AO A O D := fun z => R1.there D z hD
  generalize hA' : (fun b => A b ∨ b = D : AS) = A'
  have hA1 : ∀ b, AO A' O b → AO A O b ∨ b = D := fun b hb => by
    subst hA'
    rcases hb with (hb | hb) | hb
    · exact .inl (.inl hb)
    · exact .inr hb
    · exact .inl (.inr hb)
  have hA2 : ∀ b, AO A O b ∨ b = D → AO A' O b := fun b hb => by
    subst hA'
    rcases hb with (hb | hb) | hb
    · exact .inl (.inl hb)
    · exact .inr hb
    · exact .inl (.inr hb)
  refine ⟨fun i m H' => m = xs.length - i ∧ i ≤ xs.length ∧ ∃ acc vs' zs, H' D = some (.lst vs') ∧ Same H1 H' ∧ acc.length ≤ i ∧ compL (compF vs g t elt en) (xs.drop i) = .ok zs ∧ ys = acc ++ zs ∧ RepL K (AO A' O) H' acc vs', ⟨xs.length, by simp, Nat.zero_le _, [], [], ys, upd_same, new_same hD, Nat.le_refl _, hys, rfl, by simp [RepL]⟩, ?_⟩
  rintro i m H' ⟨rfl, hi, acc, vs', zs, hH', s2, hal, hz, hyz, hr2⟩
  have im := itm i (AO A' O) H' ⟨fun b hb => (hA1 b hb).elim .inl fun z => by rw [z]; exact .inr hD, s2⟩
  by_cases hlt : i < xs.length
  · right
    obtain ⟨hgo, hy⟩ := im.1 hlt
    obtain ⟨o, zs', hf, hz', hzs⟩ := compL_drop hlt hz
    refine ⟨hgo, fun H'' => ∃ acc vs' zs, H'' D = some (.lst vs') ∧ Same H1 H'' ∧ acc.length ≤ i + 1 ∧ compL (compF vs g t elt en) (xs.drop (i + 1)) = .ok zs ∧ ys = acc ++ zs ∧ RepL K (AO A' O) H'' acc vs', fun H'' ⟨a1, a2, a3, h1, h2, h3, h4, h5, h6⟩ => ⟨xs.length - (i + 1), by omega, rfl, by omega, a1, a2, a3, h1, h2, h3, h4, h5, h6⟩, fun x H3 y => ?_⟩
    obtain ⟨s3, d, hd, rd⟩ := hy x H3 y
    have hd' : d = xs[i] := by
      rw [List.getElem?_eq_getElem hlt] at hd
      exact (Option.some.inj hd).symm
    subst hd'
    unfold compF at hf
    cases hg : g xs[i] (wipe en vs) with
    | none => rw [hg] at hf; cases hf
    | some e1 =>
      rw [hg, lift_some, bind_ok] at hf
      have s13 := s2.trans s3
      have hD3 : H3 D ≠ none := by
        rw [s3 _ _ hH']
        exact fun z => nomatch z
      have R3 : ER K A' H0 ow O (L2.wipe σ vs) H3 (wipe en vs) := ((R1.more (A' := A') (H' := H3) (fun b hb => by
        rcases hA1 b (.inl hb) with z | z
        · exact (R1.to s13).there b z
        · rw [z]
          exact hD3) s13 (fun b hb => by
        subst hA'
        rcases hb with hb | hb
        · exact .inl hb
        · rw [hb]
          exact .inr hD) (fun b hb => by
        subst hA'
        exact .inl hb))).wipe vs hx
      refine ⟨A', H0, O, wipe en vs, xs[i], e1, R3, rd, hg, fun σ1 Rσ l1 k1 => ⟨?_, ?_⟩⟩
      · have w1 := wipe_eq (vs := vs) (σ := L2.wipe σ vs) (σ' := σ1) l1 fun j hj => k1 j fun z => hj (hts j z)
        rw [w1]
        exact wipe_eq (L2.wipe_length _ _) fun j hj => L2.wipe_out hj
      · cases ht : t e1 with
        | exc c fs => rw [ht] at hf; cases hf
        | stuck => rw [ht] at hf; cases hf
        | ok bb =>
          rw [ht, bind_ok] at hf
          refine ⟨A', H0, O, e1, Rσ, ?_⟩
          rw [ht]
          show ∀ H', Same H3 H' → _
          intro H4 s4
          cases bb with
          | false =>
            rw [if_neg (by decide)] at hf ⊢
            have ho : o = none := (Res.ok.inj hf).symm
            subst ho
            have s5 : Same H' H4 := s3.trans s4
            exact ⟨acc, vs', zs', s5 _ _ hH', s2.trans s5, by omega, hz', by rw [hyz, hzs], RepL.move (Mv.same s5) _ _ hr2⟩
          | true =>
            rw [if_pos rfl] at hf ⊢
            refine ⟨A', H0, O, e1, Rσ.to s4, ?_⟩
            cases he : elt e1 with
            | exc c fs => rw [he] at hf; cases hf
            | stuck => rw [he] at hf; cases hf
            | ok y' =>
              rw [he, bind_ok] at hf
              have ho : o = some y' := (Res.ok.inj hf).symm
              subst ho
              show ∀ v H', Same H4 H' → _
              intro v5 H5 s5 r5
              have s6 : Same H' H5 := (s3.trans s4).trans s5
              have a1 := s6 _ _ hH'
              have hmv : Mv (AO A' O) H5 (AO A' O) (upd H5 D (.lst (vs' ++ [v5]))) := ⟨fun b hb => .inl hb, fun b o' e1 hb => by
                rw [upd_ne]
                · exact e1
                · intro z
                  subst z
                  rcases hb with hb | hb
                  · exact hb (hA2 _ (.inr rfl))
                  · rw [a1] at e1
                    cases e1
                    exact hb⟩
              have rall := (RepL.move (Mv.same s6) _ _ hr2).append (RepL.one r5)
              have hlen := hr2.length
              refine ⟨vs', a1, by omega, acc ++ [y'], vs' ++ [v5], zs', upd_same, fun b o' e1 => ?_, by simp; omega, hz', by rw [hyz, hzs]; simp, RepL.move hmv _ _ rall⟩
              rw [upd_ne (ne_of_none e1 hD)]
              exact s6 _ _ (s2 _ _ e1)
  · left
    refine ⟨im.2 (by omega), ?_⟩
    have hi2 : i = xs.length := by omega
    subst hi2
    rw [List.drop_length] at hz
    have hzz : zs = [] := (Res.ok.inj hz).symm
    subst hzz
    rw [List.append_nil] at hyz
    subst hyz
    exact q2 D H' (s1.free hD) (s1.trans s2) ⟨vs', hH', RepL.move (Mv.less fun b hb => hA2 b hb) _ _ hr2⟩
end
end Py
/-! Statements. -/
namespace Py
open PySem L2
section
variable {K : Frag} {A : AS} {H0 : Base} {ow : Ow} {O : OW} {σ : L2.St} {H H' : Hp} {e : Env}
/-- every name gives up what it owns -/
theorem ER.freeze (R : ER K A H0 ow O σ H e) : ER K A ⟨H0.hp, none⟩ ow.off (fun _ => none) σ H e := by
  have mv : Mv (AO A O) H (AO A fun _ => none) H := Mv.less fun b hb => hb.elim .inl fun ⟨_, z⟩ => nomatch z
  refine ⟨R.len, R.a0, R.same, fun i d h1 _ => ?_, fun i d h1 h2 => ?_, fun i a h => (nomatch h), fun i j a h => (nomatch h), fun a h => (nomatch h), fun q hq => ?_⟩
  rotate_right
  · obtain ⟨h1, h2, h3, fvs, h4, h5⟩ := R.exq q hq
    refine ⟨?_, h2, h3, fvs, h4, RepF.move mv _ _ h5⟩
    have hq2 : ow.x = some q := hq
    simp only [Ow.off, hq2, beq_self_eq_true]
  rotate_right
  · simp only [Ow.off] at h2
    cases hq : ow.x with
    | none =>
      rw [hq] at h2
      cases h2
    | some q =>
      rw [hq] at h2
      have hi : i = q.i := by simpa using h2
      subst hi
      exact absurd h1 ((R.exq q hq).no d)
  cases hi : ow i with
  | false =>
    obtain ⟨v, q, r⟩ := R.vals i d h1 hi
    exact ⟨v, q, Rep.move mv _ _ r⟩
  | true =>
    obtain ⟨a, q, q2, r⟩ := R.owns i d h1 hi
    refine ⟨.ref a, q2, ?_⟩
    have na : ¬ AO A (fun _ => none) a := fun z => z.elim (R.fresh i a q).2.2 fun ⟨_, w⟩ => nomatch w
    exact r.rep mv na
/-- a name's own object changes -/
theorem ER.write (R : ER K A H0 ow O σ H e) {i : Nat} {a : Addr} {o : HO} {d d' : D} (hi : ow i = true) (he : e[i]? = some (some d)) (ha : O i = some a) (h : OwnAt K (AO A O) (upd H a o) a d') : ER K A H0 ow O σ (upd H a o) (e.set i (some d')) := by
  obtain ⟨a1, q1, q2, r⟩ := R.owns i d he hi
  rw [ha] at q1
  cases q1
  obtain ⟨u0, hu0, hs0, hx0⟩ := r.obj
  have hst : ∀ u, H a = some u → ¬ still u := fun u hu => by
    rw [hu0] at hu
    cases hu
    exact hs0
  have mv : Mv (AO A O) H (AO A O) (upd H a o) := ⟨fun b hb => .inl hb, fun b u e1 hb => by
    rw [upd_ne]
    · exact e1
    · intro z
      subst z
      rcases hb with hb | hb
      · exact hb (.inr ⟨i, ha⟩)
      · exact hst u e1 hb⟩
  have hne : ∀ {H1 : Hp} {b : Addr}, H1 b ≠ none → (upd H1 a o) b ≠ none := fun {H1 b} h => by
    unfold upd
    split
    · exact fun z => nomatch z
    · exact h
  refine ⟨by simp [R.len], fun b hb => hne (R.a0 b hb), fun b u e1 => ?_, fun j dj h1 h2 => ?_, fun j dj h1 h2 => ?_, fun j b hb => ⟨(R.fresh j b hb).1, hne (R.fresh j b hb).2.1, (R.fresh j b hb).2.2⟩, R.inj, R.pin, R.exq.move mv (fun da fvs e1 => (upd_ne fun z => by
    subst z
    rw [hu0] at e1
    exact hx0 _ (Option.some.inj e1)).trans e1) fun j _ n => ⟨rfl, fun dj => by
      have hij : i ≠ j := fun z => by
        subst z
        exact n _ he
      rw [List.getElem?_set_ne hij]
      exact n dj⟩⟩
  · rw [upd_ne]
    · exact R.same b u e1
    · intro z
      rw [z, (R.fresh i a ha).1] at e1
      cases e1
  · have hj : i ≠ j := fun z => by
      subst z
      rw [hi] at h2
      cases h2
    rw [List.getElem?_set_ne hj] at h1
    obtain ⟨v, q, r⟩ := R.vals j dj h1 h2
    exact ⟨v, q, Rep.move mv _ _ r⟩
  · by_cases hj : i = j
    · subst hj
      have hl := (List.getElem?_eq_some_iff.mp he).1
      rw [List.getElem?_set_self hl] at h1
      cases h1
      exact ⟨a, ha, q2, h⟩
    · rw [List.getElem?_set_ne hj] at h1
      obtain ⟨b, p1, p2, p3⟩ := R.owns j dj h1 h2
      have hba : b ≠ a := fun z => by
        subst z
        exact hj (R.inj i j b ha p1)
      exact ⟨b, p1, p2, p3.move mv (upd_ne hba)⟩
/-- a name gets an object of its own -/
theorem ER.take (R : ER K A H0 ow O σ H e) {i : Nat} {a : Addr} {d : D} (s : Same H H') (hxi : ∀ q, ow.x = some q → q.i ≠ i) (hi : ow i = true) (h0 : 0 < i) (hn : H a = none) (h : OwnAt K (fun b => AO A O b ∨ b = a) H' a d) :
    ER K A H0 ow (fun j => if j = i then some a else O j) (σ.set i (some (.ref a))) H' (e.set i (some d)) ∧ Mv (AO A O) H (AO A fun j => if j = i then some a else O j) H' := by
  have sub : ∀ b, AO A (fun j => if j = i then some a else O j) b → AO A O b ∨ b = a := fun b hb => by
    rcases hb with hb | ⟨j, hb⟩
    · exact .inl (.inl hb)
    · by_cases hj : j = i
      · simp only [hj, if_true, Option.some.injEq] at hb
        exact .inr hb.symm
      · simp only [hj, if_false] at hb
        exact .inl (.inr ⟨j, hb⟩)
  have mv : Mv (AO A O) H (AO A fun j => if j = i then some a else O j) H' := ⟨fun b hb => (sub b hb).elim .inl fun z => by rw [z]; exact .inr hn, fun b o e1 _ => s b o e1⟩
  have mv2 : Mv (fun b => AO A O b ∨ b = a) H' (AO A fun j => if j = i then some a else O j) H' := Mv.less sub
  have ha : H' a ≠ none := by
    obtain ⟨u, hu, _, _⟩ := h.obj
    rw [hu]
    exact fun z => nomatch z
  refine ⟨⟨by simp [R.len], fun b hb => ne_none s (R.a0 b hb), R.same.trans s, fun j dj h1 h2 => ?_, fun j dj h1 h2 => ?_, fun j b hb => ?_, fun j k b hj hk => ?_, fun b hb => ?_, fun q hq => ?_⟩, mv⟩
  rotate_right
  · obtain ⟨z1, z2, z3, fvs, z4, z5⟩ := R.exq q hq
    have hne : i ≠ q.i := fun z => hxi q hq z.symm
    refine ⟨z1, ?_, ?_, fvs, s _ _ z4, RepF.move mv _ _ z5⟩ <;> rw [List.getElem?_set_ne hne]
    · exact z2
    · exact z3
  · have hj : i ≠ j := fun z => by
      subst z
      rw [hi] at h2
      cases h2
    rw [List.getElem?_set_ne hj] at h1
    obtain ⟨v, q, r⟩ := R.vals j dj h1 h2
    exact ⟨v, by rw [List.getElem?_set_ne hj]; exact q, Rep.move mv _ _ r⟩
  · by_cases hj : i = j
    · subst hj
      have hl : i < e.length := by
        have := (List.getElem?_eq_some_iff.mp h1).1
        simpa using this
      rw [List.getElem?_set_self hl] at h1
      cases h1
      exact ⟨a, by simp, List.getElem?_set_self (by rw [R.len]; exact hl), h.move mv2 rfl⟩
    · rw [List.getElem?_set_ne hj] at h1
      obtain ⟨b, p1, p2, p3⟩ := R.owns j dj h1 h2
      have hj' : ¬ j = i := fun z => hj z.symm
      refine ⟨b, by simp only [hj', if_false]; exact p1, by rw [List.getElem?_set_ne hj]; exact p2, p3.move mv ?_⟩
      cases z : H b with
      | none => exact absurd z (R.fresh j b p1).2.1
      | some o => exact s b o z
  · by_cases hj : j = i
    · simp only [hj, if_true, Option.some.injEq] at hb
      subst hb
      refine ⟨?_, ha, fun z => R.a0 a z hn⟩
      cases z : H0.hp a with
      | none => rfl
      | some o =>
        rw [R.same a o z] at hn
        cases hn
    · simp only [hj, if_false] at hb
      exact ⟨(R.fresh j b hb).1, ne_none s (R.fresh j b hb).2.1, (R.fresh j b hb).2.2⟩
  · have old : ∀ l b, O l = some b → b ≠ a := fun l b hl z => by
      rw [z] at hl
      exact (R.fresh l a hl).2.1 hn
    by_cases h1 : j = i
    · by_cases h2 : k = i
      · rw [h1, h2]
      · simp only [h1, if_true, Option.some.injEq] at hj
        simp only [h2, if_false] at hk
        exact absurd hj.symm (old k b hk)
    · by_cases h2 : k = i
      · simp only [h2, if_true, Option.some.injEq] at hk
        simp only [h1, if_false] at hj
        exact absurd hk.symm (old j b hj)
      · simp only [h1, if_false] at hj
        simp only [h2, if_false] at hk
        exact R.inj j k b hj hk
  · have h1 : ¬ 0 = i := fun z => by omega
    simp only [h1, if_false]
    exact R.pin b hb
end
/-- what is given back; fr: an object that is new and its caller's own -/
def RetOk (fr : Bool) (K : Frag) (A : AS) (H0 : Base) (H' : Hp) (d : D) (v : V) : Prop := match fr with
  | false => Rep K A H' d v
  | true => ∃ a, v = .ref a ∧ H0.hp a = none ∧ OwnAt K (fun b => A b ∨ b = a) H' a d
/-- what must hold behind a statement; oN: who owns behind it, oB: who owns at a break, a continue -/
def EndOk3 (fr : Bool) (K : Frag) (A : AS) (H0 : Base) (oN oB : Ow) (O : OW) (H : Hp) (D : Ends) : Fl → Prop
  | .next e' => ∀ O' σ' H', ER K A H0 oN O' σ' H' e' → Mv (AO A O) H (AO A O') H' → D.nx σ' H'
  | .ret d => ∀ v H', Same H0.hp H' → RetOk fr K A H0 H' d v → D.rt v H'
  | .brk e' => ∀ O' σ' H', ER K A H0 oB O' σ' H' e' → Mv (AO A O) H (AO A O') H' → D.bk σ' H'
  | .cnt e' => ∀ O' σ' H', ER K A H0 oB O' σ' H' e' → Mv (AO A O) H (AO A O') H' → D.ct σ' H'
abbrev EndOk (fr : Bool) (K : Frag) (A : AS) (H0 : Base) (ow : Ow) (O : OW) (H : Hp) (D : Ends) : Fl → Prop := EndOk3 fr K A H0 ow ow O H D
theorem EndOk3.to {fr : Bool} {K : Frag} {A : AS} {H0 : Base} {oN oB : Ow} {O O1 : OW} {H H1 : Hp} {D : Ends} (m : Mv (AO A O) H (AO A O1) H1) : ∀ {f : Fl}, EndOk3 fr K A H0 oN oB O H D f → EndOk3 fr K A H0 oN oB O1 H1 D f
  | .next _, h => fun O' σ' H' R n => h O' σ' H' R (m.trans n)
  | .ret _, h => h
  | .brk _, h => fun O' σ' H' R n => h O' σ' H' R (m.trans n)
  | .cnt _, h => fun O' σ' H' R n => h O' σ' H' R (m.trans n)
def badS (K : Frag) (W : WX) (A : AS) (H0 : Base) (c : String) (fs : List (String × D)) : Prop :=
  ∀ σ' da H' fvs, Same H0.hp H' → H' da = some (.xd fvs) → RepF K A H' fs fvs → W (.ref (ca K c)) (some da) σ' H'
theorem badS.e {K : Frag} {W : WX} {A : AS} {H0 : Base} {ow : Ow} {O : OW} {σ : L2.St} {H : Hp} {e : Env} (R : ER K A H0 ow O σ H e) {c : String} {fs : List (String × D)} (h : badS K W A H0 c fs) : badE K W A O σ H c fs := fun da H' fvs s q r =>
  h σ da H' fvs (R.same.trans s) q (RepF.move (Mv.less fun b => .inl) _ _ r)
def tS3 (fr : Bool) (K : Frag) (W : WX) (ow oN oB : Ow) (m : SM) : TS := fun D σ H => ∃ A H0 O e, ER K A H0 ow O σ H e ∧ Out (m e) (EndOk3 fr K A H0 oN oB O H D) (badS K W A H0)
abbrev tS (fr : Bool) (K : Frag) (W : WX) (ow : Ow) (m : SM) : TS := tS3 fr K W ow ow ow m
section
variable {fr : Bool} {X : Cx} {W : WX} {ow : Ow} {a b c e : Expr} {es : List Expr} {m ma mb mc : EM} {st : Stmt} {rest body orelse : List Stmt} {u v : SM} {t : TM} {pos : Pos}
theorem Out.se {α : Type} {K : Frag} {W : WX} {A : AS} {H0 : Base} {ow : Ow} {O : OW} {σ : L2.St} {H : Hp} {e : Env} (R : ER K A H0 ow O σ H e) {r : Res α} {good : α → Prop} (h : Out r good (badS K W A H0)) : Out r good (badE K W A O σ H) := h.imp (fun _ _ x => x) fun _ _ x => x.e R
/-! ### blocks -/
theorem ss_nil : PSs X [] (tS fr X.K W ow skip) := PSs.of pss_nil fun D σ H ⟨A, H0, O, en, R, q⟩ => q O σ H R Mv.refl
theorem ss_one (h : PS X st (tS fr X.K W ow u)) : PSs X [st] (tS fr X.K W ow u) := pss_one h
theorem ss_cons (h : PS X st (tS fr X.K W ow u)) (k : PSs X rest (tS fr X.K W ow v)) : PSs X (st :: rest) (tS fr X.K W ow (seq u v)) :=
  PSs.of (pss_cons h k) fun D σ H ⟨A, H0, O, en, R, q⟩ => ⟨A, H0, O, en, R, (Out.bind q).good fun f q1 => by
    cases f with
    | next e' => exact fun O' σ' H' R' mv => ⟨A, H0, O', e', R', q1.good fun f q2 => q2.to mv⟩
    | ret d => exact q1
    | brk e' => exact q1
    | cnt e' => exact q1⟩
/-! ### assignments -/
theorem s_set {i : Nat} (h : PS X st (tAsg (tE X.K W ow m) (gName i))) (hi : ow i = false) : PS X st (tS fr X.K W ow (asg (gnm i) m)) :=
  PS.of h fun D σ H ⟨A, H0, O, en, R, q⟩ => ⟨A, H0, O, en, R, ((Out.bind q).se R).good fun d q1 v H1 s1 r1 => q1 O _ H1 ((R.to s1).set hi r1) (Mv.same s1)⟩
theorem s_gen {ts : List Nat} {g : GM} (h : PS X st (tAsg (tE X.K W ow m) (tGt X.K ow ts g))) : PS X st (tS fr X.K W ow (asg g m)) :=
  PS.of h fun D σ H ⟨A, H0, O, en, R, q⟩ => ⟨A, H0, O, en, R, ((Out.bind q).se R).good fun d q1 v H1 s1 r1 => by
    cases hg : g d en with
    | none =>
      rw [hg] at q1
      exact q1.elim
    | some e' =>
      rw [hg] at q1
      exact ⟨A, H0, O, en, d, e', R.to s1, r1, hg, fun σ' R' _ _ => q1 O σ' H1 R' (Mv.same s1)⟩⟩
/-- x += e and its like, x a clean name -/
theorem s_aug {i : Nat} {f : D → D → Res D} {te : TE} {tp : TIp} (h : PS X st (tAug i te tp)) (hte : te = tW X.K W ow m) (hp : ∀ x y H Q, r2 X.K f x y H Q → tp x y H Q) (hf : NoEx2 f) (hi : ow i = false) : PS X st (tS fr X.K W ow (aug i f m)) := by
  subst hte
  refine PS.of h fun D σ H ⟨A, H0, O, en, R, q⟩ => ?_
  have q0 := Out.bind q
  unfold var at q0
  split at q0
  · rename_i d0 hd0
    obtain ⟨v0, e0, r0⟩ := R.vals i d0 hd0 hi
    refine ⟨v0, e0, A, H0, O, en, R, ((Out.bind q0).se R).good fun d1 q1 v1 H1 s1 r1 => hp _ _ _ _ ?_⟩
    have R1 := R.to s1
    cases e : f d0 d1 with
    | exc _ _ => exact absurd e (hf _ _ _ _)
    | stuck =>
      rw [e] at q1
      exact q1.elim
    | ok d =>
      rw [e] at q1
      exact ⟨_, d0, d1, d, RepW.of (Rep.move (Mv.same s1) _ _ r0), r1, R1.there, e, fun v2 H2 s2 r2 => q1 O _ H2 ((R1.to s2).set hi r2) (Mv.same (s1.trans s2))⟩
  · exact q0.elim
theorem s_ret (h : PE X a (tE X.K W ow.off m)) : PS X (.Return (some a) pos) (tS false X.K W ow (ret m)) :=
  PS.of (ps_ret h) fun D σ H ⟨A, H0, O, en, R, q⟩ => ⟨A, _, _, en, R.freeze, ((Out.bind (show Out (ret m en) _ (badS X.K W A ⟨H0.hp, none⟩) from q)).se R.freeze).good fun d q1 v H1 s1 r1 =>
    q1 v H1 (R.same.trans s1) (Rep.move (Mv.less fun b => .inl) _ _ r1)⟩
theorem s_if (hc : PT X a (tT X.K W ow t)) (hb : PSs X body (tS fr X.K W ow u)) (ho : PSs X orelse (tS fr X.K W ow v)) : PS X (.If a body orelse pos) (tS fr X.K W ow (ite t u v)) :=
  PS.of (ps_if hc hb ho) fun D σ H ⟨A, H0, O, en, R, q⟩ => ⟨A, H0, O, en, R, ((Out.bind q).se R).good fun k q1 H1 s1 => by
    cases k with
    | true =>
      rw [if_pos rfl] at q1 ⊢
      exact ⟨A, H0, O, en, R.to s1, q1.good fun f q2 => q2.to (Mv.same s1)⟩
    | false =>
      rw [if_neg (by decide)] at q1 ⊢
      exact ⟨A, H0, O, en, R.to s1, q1.good fun f q2 => q2.to (Mv.same s1)⟩⟩
/-! ### loops -/
theorem for_of {it : IM} {ts : List Nat} {g : GM} {D : Ends} {σ : L2.St} {H : Hp} (h : tS fr X.K W ow (for_ it g u) D σ H) : tFor (tI Mv X.K W ow it) (tGt X.K ow ts g) (tS fr X.K W ow u) D σ H := by
  obtain ⟨A, H0, O, en, R, q⟩ := h
  exact ⟨A, H0, O, en, R, ((Out.bind q).se R).good fun xs q1 J H1 s1 itm => by
    refine ⟨fun i m σ' H' => m = xs.length - i ∧ i ≤ xs.length ∧ ∃ O' e', ER X.K A H0 ow O' σ' H' e' ∧ Mv (AO A O) H1 (AO A O') H' ∧ Out (forL (forB g u) (xs.drop i) e') (EndOk fr X.K A H0 ow O H1 D) (badS X.K W A H0),
      ⟨xs.length, by simp, Nat.zero_le _, O, en, R.to s1, Mv.refl, q1.good fun f q2 => q2.to (Mv.same s1)⟩, ?_⟩
    rintro i m σ' H' ⟨rfl, hi, O', e', R', mv, q2⟩
    have im := itm i (AO A O') H' mv
    by_cases hlt : i < xs.length
    · right
      obtain ⟨hgo, hy⟩ := im.1 hlt
      refine ⟨hgo, fun σ' H' => ∃ O' e', ER X.K A H0 ow O' σ' H' e' ∧ Mv (AO A O) H1 (AO A O') H' ∧ Out (forL (forB g u) (xs.drop (i + 1)) e') (EndOk fr X.K A H0 ow O H1 D) (badS X.K W A H0), fun σ2 H2 ⟨a1, a2, a3⟩ => ⟨xs.length - (i + 1), by omega, rfl, by omega, a1, a2, a3⟩, fun x H3 y => ?_⟩
      obtain ⟨s3, d, hd, rd⟩ := hy x H3 y
      have hd' : d = xs[i] := by
        rw [List.getElem?_eq_getElem hlt] at hd
        exact (Option.some.inj hd).symm
      subst hd'
      rw [List.drop_eq_getElem_cons hlt] at q2
      simp only [forL, forB] at q2
      cases hg' : g xs[i] e' with
      | none =>
        rw [hg'] at q2
        exact q2.elim
      | some e2 =>
        rw [hg', lift_some, bind_ok] at q2
        have mv3 : Mv (AO A O) H1 (AO A O') H3 := mv.trans (Mv.same s3)
        refine ⟨A, H0, O', e', xs[i], e2, R'.to s3, rd, hg', fun σ2 R2 _ _ => ⟨A, H0, O', e2, R2, ?_⟩⟩
        cases hu : u e2 with
        | exc c fs =>
          rw [hu] at q2
          exact q2
        | stuck =>
          rw [hu] at q2
          exact q2.elim
        | ok f =>
          rw [hu] at q2
          cases f with
          | next e3 => exact fun O3 σ3 H4 R3 m3 => ⟨O3, e3, R3, mv3.trans m3, q2⟩
          | cnt e3 => exact fun O3 σ3 H4 R3 m3 => ⟨O3, e3, R3, mv3.trans m3, q2⟩
          | brk e3 =>
            have q3 : EndOk fr X.K A H0 ow O H1 D (.next e3) := q2
            exact fun O3 σ3 H4 R3 m3 => q3 O3 σ3 H4 R3 (mv3.trans m3)
          | ret d => exact q2
    · left
      have hi2 : i = xs.length := by omega
      subst hi2
      rw [List.drop_length] at q2
      have q3 : EndOk fr X.K A H0 ow O H1 D (.next e') := q2
      exact ⟨im.2 rfl, q3 O' σ' H' R' mv⟩⟩
theorem s_for {tg iter : Expr} {it : IM} {ts : List Nat} {g : GM} (hp : PassesOwn (model X.prog X.w) X.A X.env X.xe) (hc : X.calm = true) (hi : PI X tg iter (tI Mv X.K W ow it)) (hg : PG X tg (tGt X.K ow ts g)) (hb : PSs X body (tS fr X.K W ow u))
    (hs : ∀ x, foldedSetIterable iter X.env x = pure x := by intro _; rfl) : PS X (.For tg iter body [] pos) (tS fr X.K W ow (for_ it g u)) :=
  PS.of (ps_for hp hc hi hg hb hs) fun D σ H h => for_of h
/-! ### a name's own list, object -/
theorem var_ok {α : Type} {i : Nat} {en : Env} {k : D → Res α} {good : α → Prop} {bad : String → List (String × D) → Prop} (h : Out (var i en >>= k) good bad) : ∃ d, en[i]? = some (some d) ∧ Out (k d) good bad := by
  unfold var at h
  split at h
  · rename_i d hd
    exact ⟨d, hd, h⟩
  · exact h.elim
theorem sqL {K : Frag} {H : Hp} {a : Addr} {vs : List V} (h : H a = some (.lst vs)) : L2.tyV K "list" (.ref a) H := .inl ⟨rfl, vs, .inl (.inl h)⟩
theorem own_mv {K : Frag} {A : AS} {H0 : Base} {ow : Ow} {O : OW} {σ : L2.St} {H : Hp} {en : Env} (R : ER K A H0 ow O σ H en) {i : Nat} {a : Addr} (p1 : O i = some a) {u o : HO} (e : H a = some u) (hs : ¬ still u) : Mv (AO A O) H (AO A O) (upd H a o) :=
  ⟨fun b hb => .inl hb, fun b o e3 hb => by
    rw [upd_ne]
    · exact e3
    · intro z
      subst z
      rcases hb with hb | hb
      · exact hb (.inr ⟨i, p1⟩)
      · rw [e] at e3
        cases e3
        exact hs hb⟩
/-- x.append(e) -/
theorem s_app {i : Nat} (h : PS X st (tDrop (tBM X.K "list" rAppend (tVar i) (tCons (tE X.K W ow m) tNil)))) (hi : ow i = true) : PS X st (tS fr X.K W ow (app i m)) :=
  PS.of h fun D σ H ⟨A, H0, O, en, R, q⟩ => by
    obtain ⟨l, hl, q1⟩ := var_ok q
    obtain ⟨a, p1, p2, p3⟩ := R.owns i l hl hi
    cases l with
    | lst ds =>
      obtain ⟨vs, e1, r1⟩ := p3
      refine ⟨.ref a, p2, sqL e1, A, H0, O, en, R, ((Out.bind q1).se R).good fun d q2 v H1 s1 r2 => ?_⟩
      split at q2
      · rename_i hz
        have e2 := s1 _ _ e1
        refine ⟨a, vs, v, rfl, rfl, e2, by rw [← r1.length]; exact hz, ?_⟩
        have R1 := R.to s1
        have mv := own_mv R1 p1 (o := .lst (vs ++ [v])) e2 fun z => z
        have R2 := R1.write (o := .lst (vs ++ [v])) (d' := .lst (ds ++ [d])) hi hl p1 ⟨_, upd_same, RepL.move mv _ _ ((RepL.move (Mv.same s1) _ _ r1).append (RepL.one r2))⟩
        exact q2 O σ _ R2 ((Mv.same s1).trans mv)
      · exact q2.elim
    | _ => exact q1.elim
/-- x[j] = e -/
theorem s_setL {i : Nat} {mj : EM} (h : PS X st (tAsg (tE X.K W ow m) (gSub (tVar i) (tE X.K W ow mj) (rSetX X.K)))) (hi : ow i = true) : PS X st (tS fr X.K W ow (setL i mj m)) :=
  PS.of h fun D σ H ⟨A, H0, O, en, R, q⟩ => by
    obtain ⟨l, hl, q1⟩ := var_ok q
    obtain ⟨a, p1, p2, p3⟩ := R.owns i l hl hi
    cases l with
    | lst ds =>
      obtain ⟨vs, e1, r1⟩ := p3
      refine ⟨A, H0, O, en, R, ((Out.bind q1).se R).good fun d q2 v H1 s1 r2 => ⟨.ref a, p2, A, H0, O, en, R.to s1, ((Out.bind q2).se (R.to s1)).good fun k q3 w H2 s2 r3 => ?_⟩⟩
      cases k with
      | int z =>
        simp only at q3
        split at q3
        · rename_i n hn
          have s12 := s1.trans s2
          have e2 := s12 _ _ e1
          have r3' : w = .int z := r3
          subst r3'
          refine .inl ⟨a, vs, z, n, rfl, rfl, e2, by rw [← r1.length]; exact hn, ?_⟩
          have R2 := R.to s12
          have mv := own_mv R2 p1 (o := .lst (vs.set n v)) e2 fun z => z
          have R3 := R2.write (o := .lst (vs.set n v)) (d' := .lst (ds.set n d)) hi hl p1 ⟨_, upd_same, RepL.move mv _ _ (RepL.set (Rep.move (Mv.same s2) _ _ r2) n (RepL.move (Mv.same s12) _ _ r1))⟩
          exact q3 O σ _ R3 ((Mv.same s12).trans mv)
        · exact q3.elim
      | _ => exact q3.elim
    | dic t kvs =>
      refine ⟨A, H0, O, en, R, ((Out.bind q1).se R).good fun d q2 v H1 s1 r2 => ⟨.ref a, p2, A, H0, O, en, R.to s1, ((Out.bind q2).se (R.to s1)).good fun k q3 w H2 s2 r3 => ?_⟩⟩
      split at q3
      · rename_i hk
        rw [Bool.and_eq_true, decide_eq_true_eq] at hk
        have s12 := s1.trans s2
        have R2 := R.to s12
        obtain ⟨a', p1', _, p3'⟩ := R2.owns i _ hl hi
        rw [p1] at p1'
        cases p1'
        refine .inr ⟨AO A O, t, kvs, k, d, a, rfl, .inr ⟨i, p1⟩, p3', r3, Rep.move (Mv.same s2) _ _ r2, hk.1, hk.2, fun ob g => ?_⟩
        obtain ⟨u0, hu0, hs0, _⟩ := OwnAt.obj (d := .dic t kvs) p3'
        have mv := own_mv R2 p1 (o := ob) hu0 hs0
        have R3 := R2.write (o := ob) (d' := .dic t (putD k d kvs)) hi hl p1 g
        exact q3 O σ _ R3 ((Mv.same s12).trans mv)
      · exact q3.elim
    | _ => exact q1.elim
/-- self.f = e -/
theorem s_setF {i : Nat} {cs : List String} {f : String} (F : ∀ c ∈ cs, Cls X.K (ca X.K c) ∧ NoAttr X.K (ca X.K c) (Str.ofString f)) (h : PS X st (sFld X.K (tVar i) (tE X.K W ow m) (Str.ofString f))) (hi : ow i = true) : PS X st (tS fr X.K W ow (setF i cs f m)) :=
  PS.of h fun D σ H ⟨A, H0, O, en, R, q⟩ => by
    obtain ⟨l, hl, q1⟩ := var_ok q
    obtain ⟨a, p1, p2, p3⟩ := R.owns i l hl hi
    cases l with
    | ins c fs =>
      obtain ⟨dx, fvs, e1, r1⟩ := p3
      simp only at q1
      split at q1
      · rename_i hz
        obtain ⟨f1, f2⟩ := F c (by simpa using hz.1)
        refine ⟨A, H0, O, en, R, ((Out.bind q1).se R).good fun d q2 v H1 s1 r2 => ⟨.ref a, p2, a, _, dx, fvs, rfl, s1 _ _ e1, f1, f2, by rw [← r1.length]; exact hz.2, ?_⟩⟩
        have R1 := R.to s1
        have mv := own_mv R1 p1 (o := .ins (ca X.K c) dx (L2.putF (Str.ofString f) v fvs)) (s1 _ _ e1) fun z => z
        have R2 := R1.write (o := .ins (ca X.K c) dx (L2.putF (Str.ofString f) v fvs)) (d' := .ins c (putF f d fs)) hi hl p1 ⟨dx, _, upd_same, RepF.move mv _ _ (RepF.put r2 (RepF.move (Mv.same s1) _ _ r1))⟩
        exact q2 O σ _ R2 ((Mv.same s1).trans mv)
      · exact q1.elim
    | _ => exact q1.elim
end
end Py
/-! Calls, defs, classes. -/
namespace Py
open PySem L2
theorem takes0N {X : Cx} : L2N.Takes X (fun _ _ _ _ => False) := fun u s' x => by
  obtain ⟨a, B, sI, pins, σ, H, cls, d, x1, x2, x3, x4, x5, x6, x7, x8, z⟩ := x
  exact z.elim
theorem passLN {X : Cx} : Passes (L2N.CX X.prog X.w) X E0 := fun pins σ H s e s' I h => by
  obtain ⟨a, B, H', cls, d, x1, x2, x3, x4, x5, x6, x7, z⟩ := h
  exact z.elim
/-- where one stands: k calls deep there is room -/
structure Ctx (X : Cx) (W : WX) (k : Nat) : Prop where
  calm : X.calm = true
  tk : L2N.Takes X W
  po : PassesOwn (model X.prog X.w) X.A X.env X.xe
  hr : Room k X.A
  nd : X.N.Nodup
theorem Ctx.blk {X : Cx} {W : WX} {k : Nat} (c : Ctx X W k) (s : Shared) (H : Hp) (scope : Scope) (cenv : PySem.Env) (fp : List Addr) : Ctx (X.blk s H scope cenv fp) W0 k := ⟨c.calm, takes0N, PassesOwn.never, c.hr, c.nd⟩
/-- a def that computes m of its arguments -/
def spM (K : Frag) (p : Nat) (m : List D → Res D) : Sp := fun vs H Q E => ∃ A ds, RepL K A H ds vs ∧ ds.length = p ∧ (∀ a, A a → H a ≠ none) ∧
  Out (m ds) (fun d => ∀ v H', Same H H' → Rep K A H' d v → Q v H') (fun c fs => ∀ da H' fvs, Same H H' → H' da = some (.xd fvs) → RepF K A H' fs fvs → E (.ref (ca K c)) (some da) H')
/-- an __init__ that makes m of the arguments behind self -/
def spI (K : Frag) (p : Nat) (cls : String) (m : List D → Res D) : Sp := fun vs H Q E => ∃ A x dx H1 ds ws, vs = .ref x :: ws ∧ H = upd (upd H1 dx (.own x)) x (.ins (ca K cls) dx []) ∧ H1 x = none ∧ H1 dx = none ∧ dx ≠ x ∧ RepL K A H1 ds ws ∧ ds.length + 1 = p ∧ (∀ a, A a → H1 a ≠ none) ∧
  Out (m ds) (fun d => ∀ H', Same H1 H' → Rep K A H' d (.ref x) → Q .non H') (fun c fs => ∀ da H' fvs, Same H1 H' → H' da = some (.xd fvs) → RepF K A H' fs fvs → E (.ref (ca K c)) (some da) H')
section
variable {X : Cx} {W : WX} {ow : Ow} {a b c e : Expr} {es : List Expr} {m ma mb mc : EM} {am : AM} {pos p : Pos} {k j n : Nat} {f C : Addr} {fd : FuncData} {ps : List Str} {x : Str} {fm : List D → Res D}
theorem call_of {E : St → XK} (hE : ∀ σ cls d H, W cls d σ H → E σ cls d H) {σ : L2.St} {H : Hp} {Q : VK} (h : tE X.K W ow (call fm am) σ H Q) (hl : ∀ ds d, fm ds = .ok d → ds.length = n) (hx : ∀ ds c fs, fm ds = .exc c fs → ds.length = n) : tCallSD (spM X.K n fm) [] E (aE X.K W ow am) σ H Q := by
  obtain ⟨A, H0, O, en, R, q⟩ := h
  refine ⟨A, H0, O, en, R, (Out.bind q).good fun ds q1 vs H1 s1 r1 => ?_⟩
  dsimp only
  rw [List.append_nil]
  refine ⟨AO A O, ds, paired_rep r1, ?_, (R.to s1).there, q1.imp (fun d _ k v H2 s2 r2 => k v H2 (s1.trans s2) r2) fun c fs z da H2 fvs s2 q2 r2 => hE _ _ _ _ (z da H2 fvs (s1.trans s2) q2 r2)⟩
  cases e : fm ds with
  | ok d => exact hl ds d e
  | exc c fs => exact hx ds c fs e
  | stuck =>
    rw [e] at q1
    exact q1.elim
/-- what a def asks of its number of arguments -/
structure Ar (n : Nat) (fm : List D → Res D) : Prop where
  ok : ∀ ds d, fm ds = .ok d → ds.length = n
  ex : ∀ ds c fs, fm ds = .exc c fs → ds.length = n
theorem ar_fn {p n : Nat} {body : SM} : Ar p (fn p n body) := by
  refine ⟨fun ds d h => ?_, fun ds c fs h => ?_⟩ <;> (unfold fn at h; split at h; (· assumption); (· cases h))
theorem x_call (T : Ctx X W j) (F : FnOk X.prog X.w X.K X.mg X.base (L2N.CX X.prog X.w) k f fd ps (spM X.K n fm)) (hn : Ar n fm) (hk : k ≤ j) (hg : Gl X x) (hm : X.mg x = some (.ref f)) (hkp : PySem.W.keepIn X.K (.ref f) = true) (hb : Binds X.K fd ps [])
    (ha : PA X (e :: es) (aE X.K W ow am)) (hdb : (x == ("__debug__" : Str)) = false := by decide) (he : starEach (e :: es) X.env = (false, eval e X.env) :: starEach es X.env := by rfl) (hpl : (backTo pos (starEach es X.env)).any (·.1) = false := by rfl) :
    PE X (.Call (.Name x p) (e :: es) [] pos) (tE X.K W ow (call fm am)) :=
  PE.of (pe_callSD (E := WE W) F (T.hr.mono hk) hg hm hkp hb .nil (fun σ => L2N.passAt T.tk σ) ha hdb he hpl) fun _ _ _ h => call_of (fun _ _ _ _ z => z) h hn.ok hn.ex
theorem repF_imm {K : Frag} {A A' : AS} {H : Hp} : ∀ {fs : List (String × D)} {vs : List (Str × V)}, fs.all (fun q => imm q.2) = true → RepF K A H fs vs → RepF K A' H fs vs
  | [], vs, _, h => by
    simp only [RepF] at h ⊢
    exact h
  | (n, d) :: fs, vs, i, h => by
    simp only [List.all_cons, Bool.and_eq_true] at i
    simp only [RepF] at h ⊢
    obtain ⟨v, r, e, h1, h2⟩ := h
    exact ⟨v, r, e, Rep.imm d v i.1 h1, repF_imm i.2 h2⟩
/-- with arguments that may be a name's own lists -/
theorem x_callI (T : Ctx X W j) (F : FnOk X.prog X.w X.K X.mg X.base (L2N.CX X.prog X.w) k f fd ps (spM X.K n fm)) (hn : Ar n fm) (hk : k ≤ j) (hg : Gl X x) (hm : X.mg x = some (.ref f)) (hkp : PySem.W.keepIn X.K (.ref f) = true) (hb : Binds X.K fd ps [])
    (ha : PA X (e :: es) (aW X.K W ow am)) (hdb : (x == ("__debug__" : Str)) = false := by decide) (he : starEach (e :: es) X.env = (false, eval e X.env) :: starEach es X.env := by rfl) (hpl : (backTo pos (starEach es X.env)).any (·.1) = false := by rfl) :
    PE X (.Call (.Name x p) (e :: es) [] pos) (tE X.K W ow (callI fm am)) :=
  PE.of (pe_callSD (E := WE W) F (T.hr.mono hk) hg hm hkp hb .nil (fun σ => L2N.passAt T.tk σ) ha hdb he hpl) fun σ H Q ⟨A, H0, O, en, R, q⟩ => by
    refine ⟨A, H0, O, en, R, (Out.bind q).good fun ds q1 vs H1 s1 r1 => ?_⟩
    dsimp only
    rw [List.append_nil]
    have rl := paired_none r1
    have q1 := id q1
    refine ⟨fun _ => False, ds, rl, ?_, fun _ z => z.elim, ?_⟩
    · cases e : fm ds with
      | ok d => exact hn.ok ds d e
      | exc c fs => exact hn.ex ds c fs e
      | stuck =>
        rw [e] at q1
        exact q1.elim
    · cases e : fm ds with
      | ok d =>
        rw [e] at q1
        dsimp only at q1
        split at q1
        · rename_i hi
          exact fun v H2 s2 r2 => q1 v H2 (s1.trans s2) (Rep.imm d v hi r2)
        · exact q1.elim
      | exc c fs =>
        rw [e] at q1
        dsimp only at q1
        split at q1
        · rename_i hi
          exact fun da H2 fvs s2 q2 r2 => q1 da H2 fvs (s1.trans s2) q2 (repF_imm hi r2)
        · exact q1.elim
      | stuck =>
        rw [e] at q1
        exact q1.elim
/-- C(..) of an own class: what it may let out, at the slots that stand now -/
def tMk (C : Addr) (sp : Sp) (E : St → XK) (t : TA) : TE := fun σ H Q => t σ H fun vs H1 => ∀ y dy, H1 y = none → H1 dy = none → dy ≠ y → sp (.ref y :: vs) (upd (upd H1 dy (.own y)) y (.ins C dy [])) (fun v H2 => v = .non ∧ Q (.ref y) H2) (E σ)
theorem mk_run {CX : CXT} {E : XK} {sp : Sp} {pins : List (Addr × Obj)} {σ : St} {H : Hp} {s : Shared} {Q : VK} {us : List Value} {vs : List V} (M : Mk X.K C f) (F : FnOk X.prog X.w X.K X.mg X.base CX k f fd ps sp) (hr : Room (k + 1) X.A) (hb : Binds X.K fd ps [])
    (hx : PassesAt CX X σ E) (I : Inv X pins σ H s) (rv : Vals vs us)
    (h : ∀ y dy, H y = none → H dy = none → dy ≠ y → sp (.ref y :: vs) (upd (upd H dy (.own y)) y (.ins C dy [])) (fun v H2 => v = .non ∧ Q (.ref y) H2) E) : wpAny (model X.prog X.w) X.A (PySem.call (.ref C) us) (EP X pins σ Q) X.xe s := by
  have e0 := I.hok.fresh (Nat.le_refl s.heap.objs.size)
  have e1 := I.hok.fresh (Nat.le_succ s.heap.objs.size)
  have q := h _ _ e1 e0 (Nat.ne_of_lt (Nat.lt_succ_self _))
  have J := Inv.made (C := C) I
  have rw' : Vals (V.ref (s.heap.objs.size + 1) :: vs) (Value.ref (s.heap.objs.size + 1) :: us) := .cons rfl rv
  have hl : (Value.ref (s.heap.objs.size + 1) :: us).length = ps.length := rw'.length.symm.trans (F.len _ _ _ _ q)
  have b := hb _ (Value.ref (s.heap.objs.size + 1) :: us) J.kIn (by rw [List.append_nil]; exact hl)
  rw [List.append_nil] at b
  refine wpAny_call (make_map (f := f) I.kIn M.makes M.init (beq_iff_eq.mp M.fn) (codeAny_mono (F.run _ X.stack _ _ ⟨Value.ref (s.heap.objs.size + 1) :: us, []⟩ _ _ _ E (hr.make C us []) (J.env0.make C us []) b rw' q) ?_))
  rintro (u | fl) s' z
  · exact hx pins _ _ u s' J z
  · cases fl with
    | ret u =>
      obtain ⟨v, H', I3, r3, rfl, q3⟩ := J.after z
      exact ⟨r3, V.ref (s.heap.objs.size + 1), H', I3, rfl, q3⟩
    | next => exact False.elim z
    | brk => exact False.elim z
    | cont => exact False.elim z
theorem mk_pe {CX : CXT} {E : St → XK} {sp : Sp} {t : TA} (M : Mk X.K C f) (F : FnOk X.prog X.w X.K X.mg X.base CX k f fd ps sp) (hr : Room (k + 1) X.A) (hg : Gl X x) (hm : X.mg x = some (.ref C)) (hb : Binds X.K fd ps []) (hx : ∀ σ, PassesAt CX X σ (E σ))
    (ha : PA X (e :: es) t) (hdb : (x == ("__debug__" : Str)) = false := by decide) (he : starEach (e :: es) X.env = (false, eval e X.env) :: starEach es X.env := by rfl) (hpl : (backTo pos (starEach es X.env)).any (·.1) = false := by rfl) :
    PE X (.Call (.Name x p) (e :: es) [] pos) (tMk C sp E t) :=
  ⟨fun pins s σ H Q I h => wpAny_Call_Name_kw (ld_glob I hg hm (PySem.W.callWith_K (h₀ := X.base) I.ok.mod.kin M.kp (thn (ha.run pos pins s σ H _ I h) fun us s1 ⟨vs, H1, I1, r, q⟩ => ⟨I1.kIn, mk_run M F hr hb (hx σ) I1 r q⟩) he hpl) hdb)⟩
theorem x_make {cls : String} (T : Ctx X W j) (M : Mk X.K (ca X.K cls) f) (F : FnOk X.prog X.w X.K X.mg X.base (L2N.CX X.prog X.w) k f fd ps (spI X.K n cls fm)) (hn : ∀ ds d, (fm ds = .ok d → ds.length + 1 = n)) (hx : ∀ ds c fs, fm ds = .exc c fs → ds.length + 1 = n)
    (hk : k + 1 ≤ j) (hg : Gl X x) (hm : X.mg x = some (.ref (ca X.K cls))) (hb : Binds X.K fd ps [])
    (ha : PA X (e :: es) (aE X.K W ow am)) (hdb : (x == ("__debug__" : Str)) = false := by decide) (he : starEach (e :: es) X.env = (false, eval e X.env) :: starEach es X.env := by rfl) (hpl : (backTo pos (starEach es X.env)).any (·.1) = false := by rfl) :
    PE X (.Call (.Name x p) (e :: es) [] pos) (tE X.K W ow (call fm am)) :=
  PE.of (mk_pe (E := WE W) M F (T.hr.mono hk) hg hm hb (fun σ => L2N.passAt T.tk σ) ha hdb he hpl) fun σ H Q ⟨A, H0, O, en, R, q⟩ => by
    refine ⟨A, H0, O, en, R, (Out.bind q).good fun ds q1 vs H1 s1 r1 y dx hy hdx hne => ?_⟩
    have sm : Same H1 (upd (upd H1 dx (.own y)) y (.ins (ca X.K cls) dx [])) := fun b o e => by
      rw [upd_ne (ne_of_none e hy), upd_ne (ne_of_none e hdx)]
      exact e
    refine ⟨AO A O, y, dx, H1, ds, vs, rfl, rfl, hy, hdx, hne, paired_rep r1, ?_, (R.to s1).there, ?_⟩
    · cases e : fm ds with
      | ok d => exact hn ds d e
      | exc c fs => exact hx ds c fs e
      | stuck =>
        rw [e] at q1
        exact q1.elim
    · exact q1.imp (fun d _ k H2 s2 r2 => ⟨rfl, k _ H2 (s1.trans s2) r2⟩) fun c fs z da H2 fvs s2 q2 r2 => z da H2 fvs (s1.trans s2) q2 r2
end
/-! ### defs -/
section
variable {P : Program} {w : World} {K : Frag} {mg : Str → Option Value} {base : Heap} {name qual : Str} {params : Arguments} {body : List Stmt} {scope : Scope} {dvs : List V} {kws : List (Str × V)} {f : Addr} {fd : FuncData} {N ps : List Str} {k : Nat} {ow oN oB : Ow} {m : SM}
theorem start_get {N : List Str} {vs : List V} {i : Nat} {v : V} (h : vs[i]? = some v) : (L2.start N vs)[i]? = some (some v) := by
  unfold L2.start
  have hi := (List.getElem?_eq_some_iff.mp h).1
  rw [List.getElem?_append_left (by simpa using hi), List.getElem?_map, h]
  rfl
abbrev WD (E : XK) : WX := fun c d _ H => E c d H
/-- a def's start -/
theorem spM_start {E : XK} {vs : List V} {H : Hp} {Q : VK} (hpre : ps.length ≤ N.length) (hx : ow.x = none) (hp : ∀ i, i < ps.length → ow i = false) (h : spM K ps.length (fn ps.length N.length m) vs H Q E) :
    tS3 false K (WD E) ow oN oB m { nx := fun _ H' => Q .non H', rt := Q } (L2.start N vs) H := by
  obtain ⟨AV, ds, r, hl, ha, q⟩ := h
  refine ⟨AV, ⟨H, none⟩, fun _ => none, ds.map some ++ List.replicate (N.length - ps.length) none, ?_, ?_⟩
  · have hlv := r.length
    have hN : ps.length ≤ N.length := hpre
    refine ⟨?_, ha, Same.refl H, fun i d h1 h2 => ?_, fun i d h1 h2 => ?_, fun i a h => (nomatch h), fun i j a h => (nomatch h), fun a h => (nomatch h), XFact.none hx⟩
    · unfold L2.start
      simp only [List.length_append, List.length_map, List.length_replicate]
      omega
    · by_cases hi : i < ds.length
      · rw [List.getElem?_append_left (by simpa using hi), List.getElem?_map, List.getElem?_eq_getElem hi] at h1
        simp only [Option.map_some, Option.some.injEq] at h1
        subst h1
        obtain ⟨v, hv, rv⟩ := r.get (List.getElem?_eq_getElem hi)
        exact ⟨v, start_get hv, Rep.move (Mv.less fun b hb => hb.elim id fun ⟨_, z⟩ => nomatch z) _ _ rv⟩
      · rw [List.getElem?_append_right (by simpa using hi)] at h1
        rw [List.getElem?_replicate] at h1
        split at h1 <;> cases h1
    · by_cases hi : i < ds.length
      · rw [hp i (by omega)] at h2
        cases h2
      · rw [List.getElem?_append_right (by simpa using hi)] at h1
        rw [List.getElem?_replicate] at h1
        split at h1 <;> cases h1
  · unfold fn at q
    rw [if_pos hl] at q
    cases e : m (ds.map some ++ List.replicate (N.length - ps.length) none) with
    | ok fl =>
      rw [e] at q
      cases fl with
      | next e' => exact fun O' σ' H' R' _ => q .non H' R'.same rfl
      | ret d => exact fun v H' s' r' => q v H' s' r'
      | brk e' => exact q.elim
      | cnt e' => exact q.elim
    | exc c fs =>
      rw [e] at q
      exact fun σ' da H' fvs s' q' r' => q da H' fvs s' q' r'
    | stuck =>
      rw [e] at q
      exact q.elim
theorem pre_le {N ps : List Str} (h : N.take ps.length = ps) : ps.length ≤ N.length := by
  have h2 := congrArg List.length h
  rw [List.length_take] at h2
  omega
/-- a def whose body computes m -/
theorem fn_ok (F : FunD K name qual params body scope dvs kws f fd) (S : FnScope N ps scope) (hx : ow.x = none) (hp : ∀ i, i < ps.length → ow i = false)
    (hb : ∀ (cdv : Value) (A : Around) (outer : List PySem.Env) (s : Shared) (H : Hp) (E : XK), Ctx (cxOf (L2N.CX P w) P w K mg base N qual scope f cdv A outer s H E) (WD E) k →
      PSs (cxOf (L2N.CX P w) P w K mg base N qual scope f cdv A outer s H E) body (tS3 false K (WD E) ow oN oB m)) :
    FnOk P w K mg base (L2N.CX P w) (k + 1) f fd ps (spM K ps.length (fn ps.length N.length m)) := by
  refine F.ok S (fun vs H Q E ⟨A, ds, r, h, _⟩ => r.length.symm.trans h) (fun cdv A outer s H vs Q E hr h => ?_)
  exact ⟨tS3 false K (WD E) ow oN oB m, hb cdv A outer s H E ⟨rfl, L2N.takes_of rfl rfl rfl rfl, passes_of rfl, hr, S.nd⟩, spM_start (pre_le S.pre) hx hp h⟩
/-- an __init__ whose body fills self, which stands in slot 0 -/
theorem init_ok {cls : String} (F : FunD K name qual params body scope dvs kws f fd) (S : FnScope N ps scope) (hox : ow.x = none) (h0 : ow 0 = true) (hp0 : 0 < ps.length) (hp : ∀ i, 0 < i → i < ps.length → ow i = false)
    (hb : ∀ (cdv : Value) (A : Around) (outer : List PySem.Env) (s : Shared) (H : Hp) (E : XK), Ctx (cxOf (L2N.CX P w) P w K mg base N qual scope f cdv A outer s H E) (WD E) k →
      PSs (cxOf (L2N.CX P w) P w K mg base N qual scope f cdv A outer s H E) body (tS false K (WD E) ow m)) :
    FnOk P w K mg base (L2N.CX P w) (k + 1) f fd ps (spI K ps.length cls (made ps.length N.length cls m)) := by
  refine F.ok S (fun vs H Q E ⟨A, x, dx, H1, ds, ws, h1, _, _, _, _, r, h, _⟩ => by rw [h1, List.length_cons, ← r.length]; exact h) (fun cdv A outer s H vs Q E hr h => ?_)
  obtain ⟨AV, x, dx, H1, ds, ws, rfl, hH, hx, hdx, hne, r, hl, ha, q⟩ := h
  have sd : Same H1 (upd H1 dx (.own x)) := fun b o e => by
    rw [upd_ne (ne_of_none e hdx)]
    exact e
  have hx2 : upd H1 dx (.own x) x = none := by
    rw [upd_ne fun z => hne z.symm]
    exact hx
  have s2 : Same (upd H1 dx (.own x)) H := by
    rw [hH]
    exact new_same hx2
  have s1 : Same H1 H := sd.trans s2
  refine ⟨tS false K (WD E) ow m, hb cdv A outer s H E ⟨rfl, L2N.takes_of rfl rfl rfl rfl, passes_of rfl, hr, S.nd⟩, AV, ⟨upd H1 dx (.own x), some x⟩, fun i => if i = 0 then some x else none, (some (.ins cls []) :: ds.map some) ++ List.replicate (N.length - ps.length) none, ?_, ?_⟩
  · have hlv := r.length
    have hN : ps.length ≤ N.length := by
      have := S.pre
      have h2 := congrArg List.length this
      rw [List.length_take] at h2
      omega
    have nx : ∀ i a, (if i = 0 then some x else none) = some a → i = 0 ∧ a = x := fun i a h => by
      by_cases hi : i = 0
      · rw [if_pos hi] at h
        cases h
        exact ⟨hi, rfl⟩
      · rw [if_neg hi] at h
        cases h
    have mv : Mv AV H1 (AO AV fun i => if i = 0 then some x else none) H := ⟨fun b hb => by
      rcases hb with hb | ⟨i, hb⟩
      · exact .inl hb
      · rw [(nx i b hb).2]
        exact .inr hx, fun b o e _ => s1 b o e⟩
    refine ⟨?_, fun b hb => ne_none s1 (ha b hb), s2, fun i d h1 h2 => ?_, fun i d h1 h2 => ?_, fun i a h => ?_, fun i j a h h' => (nx i a h).1.trans (nx j a h').1.symm, fun a h => ?_, XFact.none hox⟩
    · unfold L2.start
      simp only [List.length_append, List.length_map, List.length_replicate, List.length_cons]
      omega
    · cases i with
      | zero =>
        rw [h0] at h2
        cases h2
      | succ i =>
        by_cases hi : i < ds.length
        · rw [List.getElem?_append_left (by simpa using hi), List.getElem?_cons_succ, List.getElem?_map, List.getElem?_eq_getElem hi] at h1
          simp only [Option.map_some, Option.some.injEq] at h1
          subst h1
          obtain ⟨v, hv, rv⟩ := r.get (List.getElem?_eq_getElem hi)
          exact ⟨v, start_get (by simpa using hv), Rep.move mv _ _ rv⟩
        · rw [List.getElem?_append_right (by simpa using hi)] at h1
          rw [List.getElem?_replicate] at h1
          split at h1 <;> cases h1
    · cases i with
      | zero =>
        simp only [List.cons_append, List.getElem?_cons_zero, Option.some.injEq] at h1
        subst h1
        refine ⟨x, rfl, start_get rfl, dx, [], ?_, by simp [RepF]⟩
        rw [hH]
        exact upd_same
      | succ i =>
        by_cases hi : i < ds.length
        · rw [hp (i + 1) (by omega) (by omega)] at h2
          cases h2
        · rw [List.getElem?_append_right (by simpa using hi)] at h1
          rw [List.getElem?_replicate] at h1
          split at h1 <;> cases h1
    · obtain ⟨_, rfl⟩ := nx i a h
      refine ⟨hx2, ?_, fun z => ha a z hx⟩
      rw [hH, upd_same]
      exact fun z => nomatch z
    · cases h
      rfl
  · unfold made at q
    rw [if_pos hl] at q
    cases e : m ((some (.ins cls []) :: ds.map some) ++ List.replicate (N.length - ps.length) none) with
    | ok fl =>
      rw [e] at q
      cases fl with
      | next e' =>
        refine fun O' σ' H' R' _ => ?_
        cases e' with
        | nil => exact q.elim
        | cons d0 r0 =>
          cases d0 with
          | none => exact q.elim
          | some d1 =>
            cases d1 with
            | ins c fs =>
              have q2 : ∀ H', Same H1 H' → Rep K AV H' (.ins c fs) (.ref x) → Q .non H' := q
              refine q2 H' (sd.trans R'.same) ?_
              have hpin : O' 0 = some x := R'.pin x rfl
              obtain ⟨a, p1, p2, dx', fvs, p3, p4⟩ := R'.owns 0 (.ins c fs) rfl h0
              rw [hpin] at p1
              cases p1
              simp only [Rep]
              exact ⟨x, dx', fvs, rfl, fun z => ha x z hx, p3, RepF.move (Mv.less fun b => .inl) _ _ p4⟩
            | _ => exact q.elim
      | ret d => exact q.elim
      | brk e' => exact q.elim
      | cnt e' => exact q.elim
    | exc c fs =>
      rw [e] at q
      exact fun σ' da H' fvs s' q' r' => q da H' fvs (sd.trans s') q' r'
    | stuck =>
      rw [e] at q
      exact q.elim
end
end Py
/-! enumerate over tuples and lists. -/
namespace PySem
open Builtin
theorem py_en_new {v : Value} {o : Obj} {H : Heap → Prop} (B : Begins v o H) :
    Meets (Builtin.«enumerate.__new__» ⟨[.type "enumerate", v], []⟩) (fun _ R s => H s.heap ∧
      R (.ok (.ret (.ref (s.heap.push o).objs.size))) { s with heap := (s.heap.push o).push { cls := .type "enumerate", data := .fields #[.none, .bool false, .ref s.heap.objs.size, rawInt 0, .none, .none] } }) :=
  .of_wp fun prog w A R s h => by
    obtain ⟨hp, g, d, tk, os⟩ := s
    obtain ⟨h1, h⟩ := h
    have hsub := sub_enumerate
    have iter1 : ∀ {A' : Around} {E : Value → Shared → Prop} {Q : Value → Shared → Prop}, Q (.ref hp.objs.size) ⟨hp.push o, g, d, tk, os⟩ → wpAny (model prog w) A' (pyIter v) Q E ⟨hp, g, d, tk, os⟩ :=
      fun q => B.iter prog w _ _ ⟨hp, g, d, tk, os⟩ _ h1 q
    wp_walk using iter1
    refine wpAny_stack_any fun st => wpAny_pure ?_
    split
    · rename_i c _ _ _ _ _
      cases (c == Value.type "enumerate")
      · wp_walk using iter1
        exact ⟨_, rfl, h⟩
      · wp_walk using iter1
        exact ⟨_, rfl, h⟩
    · wp_walk using iter1
      exact ⟨_, rfl, h⟩
theorem py_en_call {prog : Program} {w : World} {A : Around} {E : Value → Shared → Prop} {s : Shared} {v : Value} {o : Obj} {H : Heap → Prop} {Q : Value → Shared → Prop} (B : Begins v o H) (h1 : H s.heap)
    (h : ∀ h', IsEnum h' (s.heap.objs.size + 1) s.heap.objs.size 0 .none → h'.get? s.heap.objs.size = some o → h'.objs.size = s.heap.objs.size + 2 →
      (∀ b o, s.heap.get? b = some o → h'.get? b = some o) → Q (.ref (s.heap.objs.size + 1)) { s with heap := h' }) :
    wpAny (model prog w) A (call (.type "enumerate") [v]) Q E s := by
  refine callType_new F.called_enumerate (by decide) (F.typeCall_enumerate_1 _) (F.newCall_enumerate_1 _) (fun obj => F.args_object_init_2 obj _) F.entry_enumerate_new (py_en_new B) ⟨h1, ?_⟩
  have hz : (s.heap.push o).objs.size = s.heap.objs.size + 1 := Heap.size_push ..
  show _ ∧ _
  rw [hz]
  have he : IsEnum ((s.heap.push o).push { cls := .type "enumerate", data := .fields #[.none, .bool false, .ref s.heap.objs.size, rawInt 0, .none, .none] }) (s.heap.objs.size + 1) s.heap.objs.size 0 .none := by
    have this := Heap.get?_push_size (s.heap.push o) (o := { cls := .type "enumerate", data := .fields #[.none, .bool false, .ref s.heap.objs.size, rawInt 0, .none, .none] }) rfl
    rw [hz] at this
    exact this
  exact ⟨⟨_, he, rfl⟩, h _ he (Heap.get?_push_of_some _ (Heap.get?_push_size _ B.free)) (by rw [Heap.size_push, hz]) fun b o x => Heap.get?_push_of_some _ (Heap.get?_push_of_some _ x)⟩
end PySem
namespace Py
open PySem L2
/-- enumerate over the tuple at a -/
def Iet (K : Frag) (a : Addr) : It :=
  ⟨fun i H => ∃ (xs : List V) (x : V), SqT K H a xs ∧ xs[i]? = some x, fun i H v H' => ∃ T x, v = .ref T ∧ H T = none ∧ H' = upd H T (.tup [.int (i : Nat), x]) ∧ ∀ xs, SqT K H a xs → xs[i]? = some x, fun i H => ∃ xs : List V, SqT K H a xs ∧ i = xs.length⟩
theorem turn_enumT {P : Program} {w : World} {K : Frag} {elts : List Expr} {kk : Nat} {tpos : Pos} (a e it : Addr) :
    Turn P w K (.Tuple elts kk tpos) (Iet K a) [e, it] e (fun i h => (∃ old, IsEnum h e it ((i : Nat) : Int) old) ∧ h.IsTupleIter it a i ∧ e ≠ it ∧ a ≠ it ∧ a ≠ e) where
  mem := by simp
  obj := fun i h st b hb => by
    obtain ⟨⟨old, he⟩, ⟨o, ho, hc, hd⟩, _⟩ := st
    rcases (by simpa using hb : b = e ∨ b = it) with z | z
    · subst z
      exact ⟨_, he, fun v q => nomatch q⟩
    · subst z
      exact ⟨o, ho, fun v q => by rw [hd] at q; cases q⟩
  keep := fun i h h' st k => by
    obtain ⟨⟨old, he⟩, hi, n1, n2, n3⟩ := st
    exact ⟨⟨old, k e (by simp) _ he⟩, hi.at fun o q => k it (by simp) o q, n1, n2, n3⟩
  item := by
    intro X hP hw hK hc i pins s σ H E I hf st hg
    subst hP hw hK
    obtain ⟨⟨old, he⟩, hit, n1, n2, n3⟩ := st
    obtain ⟨xs, x, hq, hx⟩ := hg
    obtain ⟨its, rv, tp, hz⟩ := I.tuple hq
    obtain ⟨u, hu, ru⟩ := rv.get hx
    have hel : e < s.heap.objs.size := Heap.lt_size he
    have hil : it < s.heap.objs.size := by
      obtain ⟨_, q, _⟩ := hit
      exact Heap.lt_size q
    have hi : i < its.toArray.size := by
      have := (List.getElem?_eq_some_iff.mp hu).1
      simpa using this
    have htp : s.heap.IsTuple a its.toArray := tp
    refine wpAny_pyNext_enum_itemD (Draws.tuple (prog := X.prog) (w := X.w) (A := X.A.in1) (I.ok.hd hc) it a n2 its.toArray) he (show _ ∧ _ from ⟨hit, htp⟩) hi n1 (by simp [n1, n3.symm]) fun x' h' tk hP' ho hst' hT hsz hk => ?_
    have hxu : x' = u := by
      have q1 : its[i]? = some x' := by simpa using hP'
      rw [hu] at q1
      exact (Option.some.inj q1).symm
    subst hxu
    refine ⟨_, rfl, wpAny_letOwnedTupleGo_enum (s := { s with heap := h', toks := tk + 1 }) ho fun h'' he' sb => ?_⟩
    have hT2 : h''.get? s.heap.objs.size = some { cls := .type "tuple", data := .seq #[.int i tk, x'] } := (sb.2 _ (Nat.ne_of_gt hel)).trans hT
    have new : ObjOk X.prog X.w (upd H s.heap.objs.size (.tup [.int (i : Nat), x])) h'' s.heap.objs.size (.tup [.int (i : Nat), x]) :=
      ⟨by show 2 ≤ sizeLine; decide, [.int i tk, x'], .cons ⟨_, rfl⟩ (.cons ru .nil), ⟨_, hT2, rfl, _, rfl⟩⟩
    have I1 : Inv X pins σ (upd H s.heap.objs.size (.tup [.int (i : Nat), x])) { s with heap := h'', toks := tk + 1 } :=
      I.turnedNew (ch := [e, it]) (fun b ob hb q => (sb.2 b fun z => hb (by simp [z])).trans (hk b ob (fun z => hb (by simp [z])) (fun z => hb (by simp [z])) q)) hf (Nat.le_refl _) new
    refine ⟨.ref s.heap.objs.size, _, I1, rfl, ⟨_, x, rfl, I.hok.fresh (Nat.le_refl _), rfl, fun ys hy => by rw [I.tuple_inj hy hq]; exact hx⟩, ⟨⟨x', ?_⟩, hst'.1.at fun o q => (sb.2 it n1.symm).trans q, n1, n2, n3⟩, fun b hb => ?_⟩
    · have e1 : ((i + 1 : Nat) : Int) = (i : Int) + 1 := by omega
      rw [e1]
      exact he'
    · have hb' : b < s.heap.objs.size := by
        rcases (by simpa using hb : b = e ∨ b = it) with z | z
        · subst z
          exact hel
        · subst z
          exact hil
      rw [upd_ne (Nat.ne_of_lt hb')]
      exact (hf b hb).1
  done := by
    intro X hP hw hK hc i pins s σ H E I hf st hg
    subst hP hw hK
    obtain ⟨⟨old, he⟩, hit, n1, n2, n3⟩ := st
    obtain ⟨xs, hq, hx⟩ := hg
    obtain ⟨its, rv, tp, hz⟩ := I.tuple hq
    obtain ⟨f0, f1, f2, f3, f4, f5⟩ := hf it (by simp)
    have hl := rv.length
    have htp : s.heap.IsTuple a its.toArray := tp
    have hi2 : i = its.toArray.size := by
      rw [List.size_toArray]
      omega
    subst hi2
    exact wpAny_pyNext_enum_endD (Draws.tuple (prog := X.prog) (w := X.w) (A := X.A.in1) (I.ok.hd hc) it a n2 its.toArray) he (show _ ∧ _ from ⟨hit, htp⟩) fun h' eb => ⟨rfl, I.turned (t' := s.toks) (fun b o hb q => eb b o hb q) f0 f1 f3 f4 f5⟩
  self := fun A i s Q E st h => by
    obtain ⟨⟨_, he⟩, _⟩ := st
    exact wpAny_pyIter_enum he h
section
variable {X : Cx} {W : WX} {ow : Ow} {a b c e : Expr} {es elts : List Expr} {m ma mb mc : EM} {pos p tpos : Pos} {kk : Nat}
def iEnumE (K : Frag) (ta : TA) : TI := fun σ H R => ta σ H fun vs H1 => ∃ a, vs = [.ref a] ∧ ((∃ xs, SqL K H1 a xs ∧ R (Ite K a) H1) ∨ ∃ xs, SqT K H1 a xs ∧ R (Iet K a) H1)
theorem pi_enumE {ta : TA} (hg : Gl X "enumerate") (hm : X.mg "enumerate" = none) (ha : PA X [e] ta) (hs : starEach [e] X.env = [(false, eval e X.env)] := by rfl) : PI X (.Tuple elts kk tpos) (.Call (.Name "enumerate" p) [e] [] pos) (iEnumE X.K ta) := by
  refine ⟨fun pins s σ H R I h => ?_⟩
  refine PyProof.Rows.Call_ (ld_blt I hg hm PyProof.Rows.boot_enumerate (PyProof.Rows.callWith_type1 (thn (ha.run pos pins s σ H _ I h) fun us s1 ⟨vs, H1, I1, r1, q1⟩ => ?_) hs rfl))
  obtain ⟨a, ex, q⟩ := q1
  subst ex
  obtain ⟨u, rfl, ru⟩ := vals1 r1
  cases ru
  have fin : ∀ b ∈ [s1.heap.objs.size + 1, s1.heap.objs.size], FpOk X pins H1 b := fun b hb => by
    have hle : s1.heap.objs.size ≤ b := by
      rcases (by simpa using hb : b = s1.heap.objs.size + 1 ∨ b = s1.heap.objs.size) with z | z
      · rw [z]
        exact Nat.le_add_right _ _
      · rw [z]
        exact Nat.le_refl _
    exact I1.fpOk hle (I1.hok.fresh hle)
  rcases q with ⟨xs, hq, q⟩ | ⟨xs, hq, q⟩
  · obtain ⟨its, rv, tp, hz⟩ := I1.list hq
    refine py_en_call (begins_list a its.toArray) tp.isList fun h' he hit hsz hk => wpAny_pyIter_enum he ?_
    exact ⟨s1.heap.objs.size + 1, [s1.heap.objs.size + 1, s1.heap.objs.size], _, _, H1, rfl, I1.kept (t' := s1.toks) hk, turn_enum a (s1.heap.objs.size + 1) s1.heap.objs.size, ⟨⟨.none, he⟩, ⟨_, hit, rfl, rfl⟩, Nat.succ_ne_self _⟩, fin, q⟩
  · obtain ⟨its, rv, tp, hz⟩ := I1.tuple hq
    have hlt : a < s1.heap.objs.size := tp.lt
    refine py_en_call (begins_tuple a its.toArray) tp fun h' he hit hsz hk => wpAny_pyIter_enum he ?_
    exact ⟨s1.heap.objs.size + 1, [s1.heap.objs.size + 1, s1.heap.objs.size], _, _, H1, rfl, I1.kept (t' := s1.toks) hk, turn_enumT a (s1.heap.objs.size + 1) s1.heap.objs.size, ⟨⟨.none, he⟩, ⟨_, hit, rfl, rfl⟩, Nat.succ_ne_self _, Nat.ne_of_lt hlt, Nat.ne_of_lt (Nat.lt_succ_of_lt hlt)⟩, fin, q⟩
theorem enumL_get : ∀ {ds : List D} {n i : Nat} {d : D}, ds[i]? = some d → (enumL n ds)[i]? = some (.tup [.int ((n + i : Nat) : Int), d])
  | [], _, _, _, h => by simp at h
  | x :: ds, n, 0, d, h => by
    simp at h
    subst h
    rfl
  | x :: ds, n, i + 1, d, h => by
    simp only [enumL, List.getElem?_cons_succ]
    rw [enumL_get (n := n + 1) (by simpa using h)]
    rw [Nat.add_right_comm]
    rfl
theorem enumL_len : ∀ (ds : List D) (n : Nat), (enumL n ds).length = ds.length
  | [], _ => rfl
  | x :: ds, n => by
    simp only [enumL, List.length_cons]
    rw [enumL_len ds]
theorem enum_item {K : Frag} {A : AS} {H : Hp} {T : Addr} {i : Nat} {d : D} {v : V} (hn : H T = none) (r : Rep K A H d v) : Same H (upd H T (.tup [.int (i : Nat), v])) ∧ Rep K A (upd H T (.tup [.int (i : Nat), v])) (.tup [.int ((0 + i : Nat) : Int), d]) (.ref T) := by
  refine ⟨new_same hn, new_tup ?_ hn⟩
  rw [Nat.zero_add]
  simp only [RepL]
  exact ⟨_, _, rfl, rfl, v, [], rfl, r, rfl⟩
theorem itm_enumT {K : Frag} {A : AS} {H : Hp} {a : Addr} {ds : List D} {vs : List V} (q : SqT K H a vs) (r : RepL K A H ds vs) : Itm Mv K A (Iet K a) (enumL 0 ds) H := fun i A2 H2 m => by
  have q2 := SqT.move m q
  have r2 := RepL.move m ds vs r
  rw [enumL_len]
  refine ⟨fun hi => ?_, fun hi => ⟨vs, q2, by rw [← r.length]; exact hi⟩⟩
  obtain ⟨v, hv, rv⟩ := r2.get (i := i) (List.getElem?_eq_getElem hi)
  refine ⟨⟨vs, v, q2, hv⟩, fun x H3 ⟨T, x', e1, hn, e2, k⟩ => ?_⟩
  subst e1 e2
  have := k vs q2
  rw [hv] at this
  cases this
  obtain ⟨s1, r1⟩ := enum_item (i := i) hn rv
  exact ⟨s1, _, enumL_get (List.getElem?_eq_getElem hi), r1⟩
theorem itm_enumL {M : MvT} {K : Frag} {A : AS} {H : Hp} {a : Addr} {ds : List D} {vs : List V} (hM : ∀ A2 H2, M A H A2 H2 → Mv A H A2 H2 ∧ Rd H2 a (.lst vs)) (r : RepL K A H ds vs) : Itm M K A (Ite K a) (enumL 0 ds) H := fun i A2 H2 m => by
  obtain ⟨mv, rd⟩ := hM A2 H2 m
  have q2 : SqL K H2 a vs := .inl rd
  have r2 := RepL.move mv ds vs r
  rw [enumL_len]
  refine ⟨fun hi => ?_, fun hi => ⟨vs, q2, by rw [← r.length]; exact Nat.le_of_eq hi.symm⟩⟩
  obtain ⟨v, hv, rv⟩ := r2.get (i := i) (List.getElem?_eq_getElem hi)
  refine ⟨⟨vs, v, q2, hv⟩, fun x H3 ⟨T, x', e1, hn, e2, k⟩ => ?_⟩
  subst e1 e2
  have := k vs q2
  rw [hv] at this
  cases this
  obtain ⟨s1, r1⟩ := enum_item (i := i) hn rv
  exact ⟨s1, _, enumL_get (List.getElem?_eq_getElem hi), r1⟩
theorem i_enum (hg : Gl X "enumerate") (hm : X.mg "enumerate" = none) (ha : PE X a (tE X.K W ow ma)) (hs : starEach [a] X.env = [(false, eval a X.env)] := by rfl) : PI X (.Tuple elts kk tpos) (.Call (.Name "enumerate" p) [a] [] pos) (tI Mv X.K W ow (ienum ma)) :=
  PI.of (pi_enumE hg hm (pa_cons ha pa_nil hs) hs) fun σ H R' ⟨A, H0, O, en, R, q⟩ => ⟨A, H0, O, en, R, (Out.bind (Out.bind q)).good fun d q1 v H1 s1 r1 => by
    cases d with
    | lst xs =>
      obtain ⟨p, vs, rfl, n, h, r⟩ := (by simpa only [Rep] using r1 : ∃ a vs, v = .ref a ∧ ¬ AO A O a ∧ Rd H1 a (.lst vs) ∧ RepL X.K (AO A O) H1 xs vs)
      exact ⟨p, rfl, .inl ⟨vs, .inl h, q1 _ H1 s1 (itm_enumL (fun A2 H2 m => ⟨m, (Rd.move m h n).1⟩) r)⟩⟩
    | tup xs =>
      obtain ⟨p, vs, rfl, h, r⟩ := (by simpa only [Rep] using r1 : ∃ a vs, v = .ref a ∧ SqT X.K H1 a vs ∧ RepL X.K (AO A O) H1 xs vs)
      exact ⟨p, rfl, .inr ⟨vs, h, q1 _ H1 s1 (itm_enumT h r)⟩⟩
    | _ => exact q1.elim⟩
end
end Py
/-! Comprehensions as expressions, what the module's names stand for, the ends. -/
namespace Py
open PySem L2
theorem f_le {K : Frag} {W : WX} {ow : Ow} {m : EM} {σ : L2.St} {H : Hp} {Q : VK} (h : tE K W ow m σ H Q) : tF K W ow m σ H Q := by
  obtain ⟨A, H0, O, en, R, q⟩ := h
  refine ⟨A, H0, O, en, R, q.good fun d k a H' n s r => k (.ref a) H' s ?_⟩
  have na : ¬ AO A O a := fun z => R.there a z n
  have mv : Mv (fun b => AO A O b ∨ b = a) H' (AO A O) H' := Mv.less fun b x => .inl x
  exact r.rep mv na
section
variable {X : Cx} {W : WX} {ow : Ow} {a b c e : Expr} {es : List Expr} {m ma mb mc : EM} {am : AM} {pos p spos : Pos} {k j n : Nat}
variable {elt tg iter : Expr} {ifs : List Expr} {scope : Scope} {own : List (Str × Nat)} {it : IM} {g : GM} {t : TM} {me : EM} {ts : List Nat}
theorem ts_nil : PTs X [] (tT X.K W ow yes) := ⟨fun pins s σ H Q I ⟨A, H0, O, en, R, q⟩ => pts_nil.run pins s σ H Q I (q H (Same.refl H))⟩
theorem ts_one (h : PT X c (tT X.K W ow t)) : PTs X [c] (tT X.K W ow t) := pts_one h
/-- [elt for tg in iter if ..] -/
theorem f_lc (T : Ctx X W j) (hi : PI X tg iter (tI Gr X.K W ow it)) (ok : BlkOk X.N X.env.scope scope own)
    (hg : ∀ (s : Shared) (H : Hp) (C : Addr) (cl : List (Str × Addr)) (fp : List Addr), Ctx (X.blk s H scope (compEnvC scope cl C X.env) fp) W0 j → PG (X.blk s H scope (compEnvC scope cl C X.env) fp) tg (tGt X.K ow ts g))
    (ht : ∀ (s : Shared) (H : Hp) (C : Addr) (cl : List (Str × Addr)) (fp : List Addr), Ctx (X.blk s H scope (compEnvC scope cl C X.env) fp) W0 j → PTs (X.blk s H scope (compEnvC scope cl C X.env) fp) ifs (tT X.K W0 ow t))
    (he : ∀ (s : Shared) (H : Hp) (C : Addr) (cl : List (Str × Addr)) (fp : List Addr), Ctx (X.blk s H scope (compEnvC scope cl C X.env) fp) W0 j → PE (X.blk s H scope (compEnvC scope cl C X.env) fp) elt (tE X.K W0 ow me))
    (hts : ∀ i ∈ ts, i ∈ own.map (·.2)) (hx : ow.x = none := by rfl) (hs : ∀ x, foldedSetIterable iter X.env x = pure x := by intro _; rfl) :
    PE X (.ListComp elt [⟨tg, iter, ifs, 0⟩] scope pos) (tF X.K W ow (lcE it (own.map (·.2)) g t me)) :=
  PE.of (pe_lc T.calm T.nd hi ok (fun s H C cl fp => hg s H C cl fp (T.blk ..)) (fun s H C cl fp => ht s H C cl fp (T.blk ..)) (fun s H C cl fp => he s H C cl fp (T.blk ..)) hs) fun _ _ _ h => lc_of hx hts h
/-- y = [..], y a plain local -/
theorem s_lc0 {i : Nat} {y : Str} {py : Pos} (T : Ctx X W j) (hy : X.N[i]? = some y) (hyl : X.env.scope.names.lookup y = some .local)
    (hsw : swapsWith (.ListComp elt [⟨tg, iter, ifs, 0⟩] scope pos) (some (.Name y py)) spos.line X.env = pure true) (hi : PI X tg iter (tI Gr X.K W ow it)) (ok : BlkOk X.N X.env.scope scope own)
    (hg : ∀ (s : Shared) (H : Hp) (C : Addr) (cl : List (Str × Addr)) (fp : List Addr), Ctx (X.blk s H scope (compEnvC scope cl C X.env) fp) W0 j → PG (X.blk s H scope (compEnvC scope cl C X.env) fp) tg (tGt X.K ow ts g))
    (ht : ∀ (s : Shared) (H : Hp) (C : Addr) (cl : List (Str × Addr)) (fp : List Addr), Ctx (X.blk s H scope (compEnvC scope cl C X.env) fp) W0 j → PTs (X.blk s H scope (compEnvC scope cl C X.env) fp) ifs (tT X.K W0 ow t))
    (he : ∀ (s : Shared) (H : Hp) (C : Addr) (cl : List (Str × Addr)) (fp : List Addr), Ctx (X.blk s H scope (compEnvC scope cl C X.env) fp) W0 j → PE (X.blk s H scope (compEnvC scope cl C X.env) fp) elt (tE X.K W0 ow me))
    (hts : ∀ i ∈ ts, i ∈ own.map (·.2)) (hx : ow.x = none := by rfl) (hs : ∀ x, foldedSetIterable iter X.env x = pure x := by intro _; rfl) :
    PS X (.Assign [.Name y py] (.ListComp elt [⟨tg, iter, ifs, 0⟩] scope pos) spos) (tAsg (tF X.K W ow (lcE it (own.map (·.2)) g t me)) (gName i)) :=
  PS.of (ps_setLc T.calm T.nd hy hyl hsw hi ok (fun s H C cl fp => hg s H C cl fp (T.blk ..)) (fun s H C cl fp => ht s H C cl fp (T.blk ..)) (fun s H C cl fp => he s H C cl fp (T.blk ..)) hs) fun _ _ _ h => lc_of hx hts h
theorem s_f {st : Stmt} {i : Nat} (h : PS X st (tAsg (tF X.K W ow m) (gName i))) : PS X st (tAsg (tE X.K W ow m) (gName i)) := PS.of h fun _ _ _ q => f_le q
/-! ### is True -/
end
/-! ### a try that runs through -/
theorem Ctx.nox {X : Cx} {W : WX} {k : Nat} (c : Ctx X W k) : Ctx X.nox W0 k := ⟨c.calm, takes0N, PassesOwn.never, c.hr, c.nd⟩
section
variable {fr : Bool} {X : Cx} {W : WX} {ow : Ow} {body : List Stmt} {u : SM} {h0 : ExceptHandler} {hs : List ExceptHandler} {pos : Pos} {j : Nat}
theorem s_thru (T : Ctx X W j) (hb : Ctx X.nox W0 j → PSs X.nox body (tS fr X.K W0 ow u)) : PS X (.Try body (h0 :: hs) [] [] pos) (tS fr X.K W ow (thru u)) :=
  PS.of (ps_try_thru0 (hb T.nox)) fun D σ H ⟨A, H0, O, en, R, q⟩ => ⟨A, H0, O, en, R, by
    have q1 : Out (noexc (u en)) (EndOk fr X.K A H0 ow O H D) (badS X.K W A H0) := q
    cases e : u en with
    | ok f =>
      rw [e] at q1
      exact q1
    | exc c fs =>
      rw [e] at q1
      exact q1.elim
    | stuck =>
      rw [e] at q1
      exact q1.elim⟩
end
/-! ### what the module's names stand for -/
/-- the name x calls a def of n parameters that computes fm -/
def CallOk (P : Program) (w : World) (K : Frag) (mg : Str → Option Value) (base : Heap) (k : Nat) (x : Str) (d : He.DefD) (ps : List Str) (n : Nat) (fm : List D → Res D) : Prop := ∃ f fd, mg x = some (.ref f) ∧ PySem.W.keepIn K (.ref f) = true ∧ Binds K fd ps [] ∧ FnOk P w K mg base (L2N.CX P w) k f fd ps (spM K n fm) ∧ Ar n fm ∧ FunD K d.name d.qual d.params d.body d.scope [] [] f fd
/-- the name cls makes an instance -/
def MakeOk (P : Program) (w : World) (K : Frag) (mg : Str → Option Value) (base : Heap) (k : Nat) (cls : String) (n : Nat) (fm : List D → Res D) : Prop := ∃ f fd ps, mg (Str.ofString cls) = some (.ref (ca K cls)) ∧ Mk K (ca K cls) f ∧ Binds K fd ps [] ∧ FnOk P w K mg base (L2N.CX P w) k f fd ps (spI K n cls fm) ∧ (∀ ds d, fm ds = .ok d → ds.length + 1 = n) ∧ ∀ ds c fs, fm ds = .exc c fs → ds.length + 1 = n
section
variable {X : Cx} {W : WX} {ow : Ow} {e : Expr} {es : List Expr} {am : AM} {pos p : Pos} {k j n : Nat} {x : Str} {fm : List D → Res D} {d : He.DefD} {ps : List Str}
theorem x_own1 (T : Ctx X W j) (C : CallOk X.prog X.w X.K X.mg X.base k x d ps n fm) (hk : k ≤ j) (hg : Gl X x) (ha : PA X (e :: es) (aE X.K W ow am)) (hdb : (x == ("__debug__" : Str)) = false := by decide)
    (he : starEach (e :: es) X.env = (false, eval e X.env) :: starEach es X.env := by rfl) (hpl : (backTo pos (starEach es X.env)).any (·.1) = false := by rfl) : PE X (.Call (.Name x p) (e :: es) [] pos) (tE X.K W ow (call fm am)) := by
  obtain ⟨f, fd, h1, h2, h3, h4, h5, _⟩ := C
  exact x_call T h4 h5 hk hg h1 h2 h3 ha hdb he hpl
theorem x_ownI (T : Ctx X W j) (C : CallOk X.prog X.w X.K X.mg X.base k x d ps n fm) (hk : k ≤ j) (hg : Gl X x) (ha : PA X (e :: es) (aW X.K W ow am)) (hdb : (x == ("__debug__" : Str)) = false := by decide)
    (he : starEach (e :: es) X.env = (false, eval e X.env) :: starEach es X.env := by rfl) (hpl : (backTo pos (starEach es X.env)).any (·.1) = false := by rfl) : PE X (.Call (.Name x p) (e :: es) [] pos) (tE X.K W ow (callI fm am)) := by
  obtain ⟨f, fd, h1, h2, h3, h4, h5, _⟩ := C
  exact x_callI T h4 h5 hk hg h1 h2 h3 ha hdb he hpl
theorem x_new {cls : String} (T : Ctx X W j) (C : MakeOk X.prog X.w X.K X.mg X.base k cls n fm) (hk : k + 1 ≤ j) (hg : Gl X (Str.ofString cls)) (ha : PA X (e :: es) (aE X.K W ow am)) (hdb : (Str.ofString cls == ("__debug__" : Str)) = false := by decide)
    (he : starEach (e :: es) X.env = (false, eval e X.env) :: starEach es X.env := by rfl) (hpl : (backTo pos (starEach es X.env)).any (·.1) = false := by rfl) : PE X (.Call (.Name (Str.ofString cls) p) (e :: es) [] pos) (tE X.K W ow (call fm am)) := by
  obtain ⟨f, fd, ps, h1, h2, h3, h4, h5, h6⟩ := C
  exact x_make T h2 h4 h5 h6 hk hg h1 h3 ha hdb he hpl
end
/-! ### defs by the head's facts -/
section
variable {P : Program} {w : World} {K : Frag} {mg : Str → Option Value} {base : Heap} {k : Nat} {ow oN oB : Ow} {m : SM} {name qual : Str} {params : Arguments} {body : List Stmt} {scope : Scope} {f : Addr} {N ps : List Str} {p n : Nat}
theorem def_ok {d : He.DefD} (F : ∃ fd, FunD K d.name d.qual d.params d.body d.scope [] [] f fd) (g : mg d.name = some (.ref f)) (S : FnScope N ps d.scope) (hpl : ps.length = p) (hnl : N.length = n) (hp : ∀ i, i < p → ow i = false)
    (hbind : ∀ (kV doc pm : Value) (an : Option Addr) (cdv ct : Value) (us : List Value), us.length = ps.length → bindArgs (PySem.W.fnOf d.name d.qual d.params d.body d.scope .none kV doc pm an cdv ct) ⟨us, []⟩ = pure (ps.zip us))
    (hb : ∀ (cdv : Value) (A : Around) (outer : List PySem.Env) (s : Shared) (H : Hp) (E : XK), Ctx (cxOf (L2N.CX P w) P w K mg base N d.qual d.scope f cdv A outer s H E) (WD E) k →
      PSs (cxOf (L2N.CX P w) P w K mg base N d.qual d.scope f cdv A outer s H E) d.body (tS3 false K (WD E) ow oN oB m)) (hx : ow.x = none := by rfl) : CallOk P w K mg base (k + 1) d.name d ps p (fn p n m) := by
  obtain ⟨fd, F⟩ := F
  subst hpl hnl
  exact ⟨f, fd, g, F.kp, FunD.bindsN F hbind, fn_ok F S hx hp hb, ar_fn, F⟩
theorem ar_made {p n : Nat} {cls : String} {body : SM} : (∀ ds d, made p n cls body ds = .ok d → ds.length + 1 = p) ∧ ∀ ds c fs, made p n cls body ds = .exc c fs → ds.length + 1 = p := by
  refine ⟨fun ds d h => ?_, fun ds c fs h => ?_⟩ <;> (unfold made at h; split at h; (· assumption); (· cases h))
theorem cls_ok {cls : String} (F : ∃ fd, FunD K name qual params body scope [] [] f fd) (g : mg (Str.ofString cls) = some (.ref (ca K cls))) (M : Mk K (ca K cls) f) (S : FnScope N ps scope) (hpl : ps.length = p) (hnl : N.length = n) (h0 : ow 0 = true) (hp0 : 0 < p) (hp : ∀ i, i < p → 0 < i → ow i = false)
    (hbind : ∀ (kV doc pm : Value) (an : Option Addr) (cdv ct : Value) (us : List Value), us.length = ps.length → bindArgs (PySem.W.fnOf name qual params body scope .none kV doc pm an cdv ct) ⟨us, []⟩ = pure (ps.zip us))
    (hb : ∀ (cdv : Value) (A : Around) (outer : List PySem.Env) (s : Shared) (H : Hp) (E : XK), Ctx (cxOf (L2N.CX P w) P w K mg base N qual scope f cdv A outer s H E) (WD E) k →
      PSs (cxOf (L2N.CX P w) P w K mg base N qual scope f cdv A outer s H E) body (tS false K (WD E) ow m)) (hx : ow.x = none := by rfl) : MakeOk P w K mg base (k + 1) cls p (made p n cls m) := by
  obtain ⟨fd, F⟩ := F
  subst hpl hnl
  exact ⟨f, fd, ps, g, M, FunD.bindsN F hbind, init_ok F S hx h0 hp0 (fun i a b => hp i b a) hb, ar_made.1, ar_made.2⟩
end
/-! ### the head's facts, tables, and one more -/
/-! ### a table of texts -/
def TabOk (K : Frag) (w : World) (mg : Str → Option Value) (x : Str) (tab : List (String × Int)) : Prop :=
  ∃ d es n, mg x = some (.ref d) ∧ KDict K w d es n ∧ ∀ z : String, ∃ r, PySem.W.nsIn K d (Str.ofString z) = some r ∧ (tab.lookup z = none → r = none) ∧ ∀ i, tab.lookup z = some i → ∃ t, r = some (.int i t)
theorem lookup_mem {z : String} {i : Int} : ∀ {tab : List (String × Int)}, tab.lookup z = some i → (z, i) ∈ tab
  | [], h => by cases h
  | (y, j) :: r, h => by
    rw [List.lookup_cons] at h
    split at h
    · rename_i e
      have e1 : z = y := by simpa using e
      cases h
      subst e1
      exact List.mem_cons_self
    · exact List.mem_cons_of_mem _ (lookup_mem h)
theorem lookup_no {z : String} : ∀ {tab : List (String × Int)}, tab.lookup z = none → ∀ q ∈ tab, q.1 ≠ z
  | [], _, q, hq => by cases hq
  | (y, j) :: r, h, q, hq => by
    rw [List.lookup_cons] at h
    split at h
    · cases h
    · rename_i e
      rcases List.mem_cons.mp hq with e1 | hq
      · subst e1
        intro e2
        have e2 : y = z := e2
        subst e2
        simp at e
      · exact lookup_no h q hq
theorem tab_keys {P : Params} : ∀ {l : List DictEntry} {ks : List Str}, l.map He.keyOf = He.keysIn P ks → ∀ e ∈ l, ∃ k t, e.key = .str k t ∧ k ∈ ks
  | [], _, _, e, he => by cases he
  | e0 :: r, [], h, _, _ => by cases h
  | e0 :: r, k :: ks, h, e, he => by
    have h1 : He.keyOf e0 :: r.map He.keyOf = some (k, PyData.keyHash P k) :: He.keysIn P ks := h
    injection h1 with h2 h3
    rcases List.mem_cons.mp he with e1 | he
    · subst e1
      unfold He.keyOf at h2
      split at h2
      · rename_i x t q
        have h4 := Option.some.inj h2
        obtain ⟨h5, h6⟩ := Prod.mk.inj h4
        exact ⟨x, t, q, by rw [h5]; exact List.mem_cons_self⟩
      · cases h2
    · obtain ⟨k1, t, e1, m⟩ := tab_keys h3 e he
      exact ⟨k1, t, e1, List.mem_cons_of_mem _ m⟩
theorem tab_ok {K : Frag} {w : World} {mg : Str → Option Value} {x : Str} {tab : List (String × Int)} (hraw : He.dicW K (He.ga K x) = some (He.keysIn w.params (tab.map fun q => Str.ofString q.1))) (hv : He.valsB K (He.ga K x) (tab.map fun q => (Str.ofString q.1, He.Dv.int q.2)) = true) (hg : mg x = some (.ref (He.ga K x))) : TabOk K w mg x tab := by
  obtain ⟨es, n, D⟩ := He.dicW_ok hraw
  refine ⟨_, es, n, hg, D, fun z => ?_⟩
  cases e : tab.lookup z with
  | some i =>
    have m := lookup_mem e
    obtain ⟨u, h1, h2⟩ := He.valsB_ok hv (q := (Str.ofString z, He.Dv.int i)) (List.mem_map.mpr ⟨_, m, rfl⟩)
    refine ⟨_, h1, (fun q => nomatch q), fun j q => ?_⟩
    cases q
    obtain ⟨t, rfl⟩ := (show ∃ t, u = Value.int i t from h2)
    exact ⟨t, rfl⟩
  | none =>
    have no := lookup_no e
    have ks : es.toList.map He.keyOf = He.keysIn w.params (tab.map fun q => Str.ofString q.1) := by
      unfold He.dicW at hraw
      rw [D.at_] at hraw
      have low := D.low
      simp only [low, decide_true, Bool.true_and, Bool.not_false, Bool.and_true] at hraw
      simpa using hraw
    refine ⟨none, ?_, fun _ => rfl, fun j q => nomatch q⟩
    unfold PySem.W.nsIn
    rw [D.at_]
    have ef : es.toList.find? (·.key.isStr (Str.ofString z)) = none := by
      rw [List.find?_eq_none]
      intro ent hent h
      obtain ⟨k, t, e1, m⟩ := tab_keys ks ent hent
      rw [e1] at h
      obtain ⟨q, hq, e2⟩ := List.mem_map.mp m
      have e3 : k = Str.ofString z := by simpa [Value.isStr] using h
      exact no q hq (ofS_inj (e2.trans e3))
    have er : es.toList.any (·.refKey) = false := by
      rw [List.any_eq_false]
      intro ent hent h
      obtain ⟨k, t, e1, m⟩ := tab_keys ks ent hent
      simp [DictEntry.refKey, e1] at h
    simp only [ef, er]
    rfl
section
variable {X : Cx} {W : WX} {ow : Ow} {a : Expr} {ma : EM} {pos p : Pos} {tab : List (String × Int)} {nm : Str}
theorem t_nothas (T : TabOk X.K X.w X.mg nm tab) (hg : Gl X nm) (ha : PE X a (tE X.K W ow ma)) (hm : behindInMarks .NotIn (.Name nm p) = false := by rfl) (hd : (nm == ("__debug__" : Str)) = false := by decide) : PT X (.Compare a [.NotIn] [.Name nm p] pos) (tT X.K W ow (tst (un (onothas tab) ma))) := by
  obtain ⟨d, es, n, h1, h2, h3⟩ := T
  refine PT.of (pt_cmpR (op_notIn_kd h2) ha (pe_glob (v := .ref d) hg h1 rfl hd) hm) fun σ H Q ⟨A, H0, O, en, R, q⟩ => ⟨A, H0, O, en, R, (Out.bind (Out.bind q)).good fun d1 q1 v1 H1 s1 r1 => ?_⟩
  cases d1 with
  | str z =>
    obtain ⟨r, e, k1, k2⟩ := h3 z
    refine ⟨_, r, r1, rfl, e, _, rfl, ?_⟩
    have e2 : r.isSome = (tab.lookup z).isSome := by
      cases e3 : tab.lookup z with
      | none => rw [k1 e3] <;> rfl
      | some i =>
        obtain ⟨t, e4⟩ := k2 i e3
        rw [e4] <;> rfl
    rw [e2]
    exact q1 _ s1
  | _ => exact q1.elim
theorem x_look (T : TabOk X.K X.w X.mg nm tab) (hg : Gl X nm) (ha : PE X a (tE X.K W ow ma)) (hs : PlainIx a := by exact fun _ _ => rfl) (hd : (nm == ("__debug__" : Str)) = false := by decide) : PE X (.Subscript (.Name nm p) a pos) (tE X.K W ow (un (olook tab) ma)) := by
  obtain ⟨d, es, n, h1, h2, h3⟩ := T
  refine PE.of (pe_ix ix_kdict (pe_glob (v := .ref d) hg h1 rfl hd) ha hs) fun σ H Q ⟨A, H0, O, en, R, q⟩ => ?_
  refine (⟨A, H0, O, en, R, (Out.bind q).good fun d1 q1 v1 H1 s1 r1 => ?_⟩ : tE X.K W ow ma σ H _)
  cases d1 with
  | str z =>
    obtain ⟨r, e, k1, k2⟩ := h3 z
    cases e3 : tab.lookup z with
    | none =>
      simp only [olook, e3, opt, Option.map_none] at q1
      exact q1.elim
    | some i =>
      obtain ⟨t, e4⟩ := k2 i e3
      subst e4
      simp only [olook, e3, opt, Option.map_some] at q1
      exact ⟨d, Str.ofString z, .int i, rfl, r1, ⟨es, n, _, h2.at_, h2.lit, e, ⟨t, rfl⟩⟩, q1 _ _ s1 (flat_rep (d := .int i) rfl _ _)⟩
  | _ => exact q1.elim
end
/-! ### append -/
theorem s_app1 {fr : Bool} {X : Cx} {W : WX} {ow : Ow} {i : Nat} {o e : Expr} {m : EM} {apos cpos pos : Pos} (ho : PE X o (tVar i)) (h : PE X e (tE X.K W ow m)) (hi : ow i = true)
    (hbase : attributeBase o "append" X.env (eval o X.env) = eval o X.env := by rfl)
    (hfew : ((backTo cpos (starEach [e] X.env)).all (fun x => !x.1) && (backToKw cpos (keywordEach [] X.env)).all (fun x => x.1.isSome)
      && decide (([e] : List Expr).length + ([] : List Keyword).length + (if ([] : List Keyword).isEmpty then 0 else 1) < 30)) = true := by rfl)
    (hline : (apos.endLine == cpos.line) = true := by rfl) (hs : starEach [e] X.env = [(false, eval e X.env)] := by rfl)
    (hsw : swapsWith (.Call (.Attribute o "append" apos) [e] [] cpos) none pos.line X.env = pure false := by rfl) :
    PS X (.Expr (.Call (.Attribute o "append" apos) [e] [] cpos) pos) (tS fr X.K W ow (app i m)) :=
  s_app (ps_expr (pe_bm PySem.F.plainAttrs_list PySem.F.slot_list_append PySem.F.type_list_append mt_append ho (pa_cons h pa_nil hs) hbase hfew hline hs (by rfl)) hsw) hi
/-! ### code that is not reached -/
/-! ### the law -/
end Py
/-! What a head tells, in one place; the law's end. -/
namespace Py
open PySem L2
open He (Fa DefD Tab)
theorem Ctx.eq {X : Cx} {W : WX} {k : Nat} (T : Ctx X W k) : OpR X (compareOp .Eq) (r2 X.K oeq) := y_eq (by have := T.hr.un; omega)
theorem Ctx.ne {X : Cx} {W : WX} {k : Nat} (T : Ctx X W k) : OpR X (compareOp .NotEq) (r2 X.K one) := y_ne (by have := T.hr.un; omega)
theorem ss_dead {fr : Bool} {X : Cx} {W : WX} {ow : Ow} {st : List Stmt} : PSs X st (tS fr X.K W ow dead) := ⟨fun pins s σ H D I ⟨A, H0, O, en, R, q⟩ => (q : False).elim⟩
theorem hv_len : bootBuiltins "len" = some (.builtin "len") := by decide +kernel
theorem hv_sum : bootBuiltins "sum" = some (.builtin "sum") := by decide +kernel
theorem hv_all : bootBuiltins "all" = some (.builtin "all") := by decide +kernel
theorem hv_int : bootBuiltins "int" = some (.type "int") := by decide +kernel
theorem hv_tuple : bootBuiltins "tuple" = some (.type "tuple") := by decide +kernel
theorem hv_list : bootBuiltins "list" = some (.type "list") := by decide +kernel
theorem hv_bool : bootBuiltins "bool" = some (.type "bool") := by decide +kernel
theorem hv_str : bootBuiltins "str" = some (.type "str") := by decide +kernel
/-! ### the list objects left out -/
def notList (o : Obj) : Bool := match o.cls with
  | .type c => !(decide (c = "list"))
  | _ => true
def noL (K : Frag) : Bool := K.all fun q => notList q.2
theorem klookup_mem {a : Addr} {o : Obj} : ∀ {l : List (Addr × Obj)}, l.lookup a = some o → (a, o) ∈ l
  | [], h => by cases h
  | (b, u) :: r, h => by
    rw [List.lookup_cons] at h
    split at h
    · rename_i e
      have e1 : a = b := by simpa using e
      cases h
      subst e1
      exact List.mem_cons_self
    · exact List.mem_cons_of_mem _ (klookup_mem h)
theorem sqL_rd {K : Frag} (h : noL K = true) {H : Hp} {a : Addr} {vs : List V} (q : SqL K H a vs) : Rd H a (.lst vs) := by
  rcases q with q | ⟨o, its, n, hk, hc, _⟩
  · exact q
  · have m := List.all_eq_true.mp h _ (klookup_mem hk)
    simp [notList, hc] at m
/-! ### facts -/
structure Facts (fa : List Fa) (fn : List DefD) (ts : List Tab) (ms : List (Frag → Bool)) (w : World) (K : Frag) (mg : Str → Option Value) : Prop where
  c : He.SaysT fa fn ts w K
  m : (noL K && ms.all fun m => m K) = true
  h : ∃ h : Heap, K.In h ∧ h.Ns mainGlobals mg
section
variable {fa : List Fa} {fn : List DefD} {ts : List Tab} {ms : List (Frag → Bool)} {w : World} {K : Frag} {mg : Str → Option Value}
theorem Facts.glo (Y : Facts fa fn ts ms w K mg) (i : Nat) {x : Str} (h : fa[i]? = some (.glo x) := by rfl) : mg x = some (.ref (He.ga K x)) := by
  obtain ⟨_, KX, G⟩ := Y.h
  exact He.glo_ok KX G (Y.c.d.fact i h)
theorem Facts.free (Y : Facts fa fn ts ms w K mg) (i : Nat) {x : Str} (h : fa[i]? = some (.free x) := by rfl) : mg x = none := by
  obtain ⟨_, KX, G⟩ := Y.h
  exact He.free_ok KX G (Y.c.d.fact i h)
theorem Facts.mkr (Y : Facts fa fn ts ms w K mg) (i : Nat) {x : String} (h : fa[i]? = some (.mkr (Str.ofString x)) := by rfl) : Mk K (ca K x) (He.ma K (ca K x) "__init__") := He.mkr_ok (Y.c.d.fact i h)
theorem Facts.def_ (Y : Facts fa fn ts ms w K mg) (i : Nat) {d : DefD} (h : fn[i]? = some d := by rfl) : ∃ fd, FunD K d.name d.qual d.params d.body d.scope (d.dvs K) (d.kws K) (He.fAd K d.at_) fd := Y.c.d.def_ i h
theorem Facts.more (Y : Facts fa fn ts ms w K mg) (i : Nat) {m : Frag → Bool} (h : ms[i]? = some m := by rfl) : m K = true := by
  have q := Y.m
  rw [Bool.and_eq_true] at q
  exact List.all_eq_true.mp q.2 m (List.mem_of_getElem? h)
theorem Facts.noL (Y : Facts fa fn ts ms w K mg) : noL K = true := by
  have q := Y.m
  rw [Bool.and_eq_true] at q
  exact q.1
/-- a field's classes -/
def attB (cs : List String) (f : String) (K : Frag) : Bool := cs.all fun c => (Fa.cls (Str.ofString c)).ok K && (Fa.noat (Str.ofString c) (Str.ofString f)).ok K
theorem att_ok {cs : List String} {f : String} (h : attB cs f K = true) : ∀ c ∈ cs, Cls K (ca K c) ∧ NoAttr K (ca K c) (Str.ofString f) := fun c hc => by
  have q := List.all_eq_true.mp h c hc
  rw [Bool.and_eq_true] at q
  exact ⟨He.cls_ok q.1, He.noat_ok q.2⟩
def kitC (cs : List String) (K : Frag) : Bool := kitB K cs
/-- a table of texts -/
def tabB (x : String) (tab : List (String × Int)) (K : Frag) : Bool := He.valsB K (He.ga K (Str.ofString x)) (tab.map fun q => (Str.ofString q.1, He.Dv.int q.2))
def tabT (x : String) (tab : List (String × Int)) : Tab := (fun K => He.ga K (Str.ofString x), tab.map fun q => Str.ofString q.1)
theorem Facts.tab (Y : Facts fa fn ts ms w K mg) {x : String} {tab : List (String × Int)} (i j k : Nat) (h1 : ts[i]? = some (tabT x tab) := by rfl) (h2 : ms[j]? = some (tabB x tab) := by rfl) (h3 : fa[k]? = some (.glo (Str.ofString x)) := by rfl) : TabOk K w mg (Str.ofString x) tab := by
  refine tab_ok ?_ (Y.more j h2) (Y.glo k h3)
  have e : ts.map (fun t => He.dicW K (t.1 K)) = ts.map fun t => some (He.keysIn w.params t.2) := congrArg (fun z : He.AlT => z.2) Y.c
  have e2 : (ts.map fun t => He.dicW K (t.1 K))[i]? = (ts.map fun t => some (He.keysIn w.params t.2))[i]? := by rw [e]
  rw [List.getElem?_map, List.getElem?_map, h1] at e2
  exact Option.some.inj e2
end
/-! ### the law's def -/
section
variable {P : Program} {w : World} {K : Frag} {mg : Str → Option Value} {k : Nat} {ow oN oB : Ow} {m : SM} {qual : Str} {params : Arguments} {body : List Stmt} {scope : Scope} {f : Addr} {N : List Str} {n : Nat}
theorem law_ok (F : ∃ fd, FunD K "law" qual params body scope [] [] f fd) (S : FnScope N ["script"] scope) (hnl : N.length = n) (hp : ow 0 = false)
    (hbind : ∀ (kV doc pm : Value) (an : Option Addr) (cdv ct : Value) (us : List Value), us.length = 1 → bindArgs (PySem.W.fnOf "law" qual params body scope .none kV doc pm an cdv ct) ⟨us, []⟩ = pure ((["script"] : List Str).zip us))
    (hb : ∀ (base : Heap) (cdv : Value) (A : Around) (outer : List PySem.Env) (s : Shared) (H : Hp) (E : XK), Ctx (cxOf (L2N.CX P w) P w K mg base N qual scope f cdv A outer s H E) (WD E) k →
      PSs (cxOf (L2N.CX P w) P w K mg base N qual scope f cdv A outer s H E) body (tS3 false K (WD E) ow oN oB m)) (hx : ow.x = none := by rfl) :
    ∃ fd : FuncData, (∀ (s : Shared) (u : Value), BindsTo s fd ⟨[u], []⟩ [("script", u)]) ∧ ∀ base : Heap, FnOk P w K mg base (L2N.CX P w) (k + 1) f fd ["script"] (spM K 1 (fn 1 n m)) := by
  obtain ⟨fd, F⟩ := F
  subst hnl
  have b := FunD.bindsA (ps := ["script"]) F hbind
  exact ⟨fd, fun s v => b s [v] rfl, fun base => fn_ok F S hx (fun i hi => by
    have : i = 0 := by simpa using hi
    subst this
    exact hp) (hb base)⟩
theorem ints_rep {K : Frag} {A : AS} {H : Hp} : ∀ ns : List Int, RepL K A H (ns.map D.int) (ns.map V.int)
  | [] => by simp [RepL]
  | n :: ns => by
    simp only [List.map_cons, RepL]
    exact ⟨_, _, rfl, rfl, ints_rep ns⟩
/-- what escapes nothing can be handed out -/
theorem cx_none {P : Program} {w : World} {H : Hp} {s : Shared} {e : Value} {s' : Shared} (h : L2N.CX P w [] H s (fun _ _ _ => False) e s') : False := by
  obtain ⟨a, B, H', cls, d, rfl, fl, hok, ub, na, os, ag, hE⟩ := h
  exact hE
open PyProof.Rows in
theorem walk_ofW {l : PySem.W.OpenLaw} {n k : Nat} {q : Program} {loose : List Str} {XP : (Str → Option Value) → Heap → Prop} {YP : World → Heap → Prop} {d : DefRec} {CX : World → CXT} {x : Str}
    (hn : l.most = some n) (hn2 : n ≤ sizeLine) (hdf : d.params.defaults = []) (hr : Room k callerA)
    (F : ∀ (w : World) (mg : Str → Option Value) (fa : Addr) (h : Heap), YP w h → h.Ns mainGlobals mg → mg d.name = some (.ref fa) →
      ∃ (K : PySem.W.Frag) (fd : FuncData) (sp : Sp), K.In h ∧ (∀ (s : Shared) (u : Value), BindsTo s fd ⟨[u], []⟩ [(x, u)]) ∧
        (∀ (H : Hp) (a : Addr) (ns : List Int), ns.length ≤ n → Only H → SqL K H a (ns.map V.int) → sp [.ref a] H (fun v _ => v = .bl true) fun _ _ _ => False) ∧
        ∀ base : Heap, K.In base → base.Ns mainGlobals mg → FnOk l.prog w K mg base (CX w) k fa fd [x] sp)
    (hCX : ∀ (w : World) (H : Hp) (s : Shared) (e : Value) (s' : Shared), CX w [] H s (fun _ _ _ => False) e s' → False) :
    PySem.W.WalkO q loose XP YP l.row.toRowW d [] (fun f vs => PySem.call f vs) := by
  refine Att.attach_call hn hdf fun w s₀ s₁ mg mb fa o pm cd doc a vs ns G Y ho hd hcd hmg hobj hints hlen hg => ?_
  obtain ⟨K, fd, sp, KX, hb, hsp, hF⟩ := F w mg fa _ Y G.T.g hmg
  exact law_call KX G.T.g G.T.b G.T.builtins G.T.nolimit hg hobj hints (Nat.le_trans hlen hn2) hr hF hb (fun H hO hS => hsp H a ns hlen hO hS) fun H e s' => hCX w H s₁ e s'
/-- what the law computes is True: the law holds -/
theorem sp_law {K : Frag} {fm : List D → Res D} (hL : noL K = true) {H : Hp} {a : Addr} {ns : List Int} (hm : fm [.lst (ns.map .int)] = .ok (.bl true)) (hS : SqL K H a (ns.map V.int)) :
    spM K 1 fm [.ref a] H (fun v _ => v = .bl true) fun _ _ _ => False := by
  refine ⟨fun _ => False, [.lst (ns.map .int)], ?_, rfl, fun _ h => h.elim, ?_⟩
  · simp only [RepL]
    refine ⟨_, _, rfl, ?_, rfl⟩
    simp only [Rep]
    exact ⟨a, _, rfl, id, sqL_rd hL hS, ints_rep ns⟩
  · rw [hm]
    exact fun v H' _ r => r
end
end Py
/-! Methods of own classes, zip, constants of the module, |=. -/
namespace Py
open PySem L2
open He (Fa DefD Tab)
/-! ### methods -/
structure MethOk (P : Program) (w : World) (K : Frag) (mg : Str → Option Value) (base : Heap) (k : Nat) (cls mn : String) (n : Nat) (fm : List D → Res D) : Prop where
  ex : ∃ f fd ps, Cls K (ca K cls) ∧ Meth K (ca K cls) (Str.ofString mn) f ∧ Binds K fd ps [] ∧ FnOk P w K mg base (L2N.CX P w) k f fd ps (spM K n fm) ∧ Ar n fm
section
variable {P : Program} {w : World} {K : Frag} {mg : Str → Option Value} {base : Heap} {k : Nat} {ow oN oB : Ow} {m : SM} {f : Addr} {N ps : List Str} {p n : Nat} {cls mn : String}
theorem meth_def {d : He.DefD} (F : ∃ fd, FunD K d.name d.qual d.params d.body d.scope [] [] f fd) (hc : Cls K (ca K cls)) (hme : Meth K (ca K cls) (Str.ofString mn) f) (S : FnScope N ps d.scope) (hpl : ps.length = p) (hnl : N.length = n) (hp : ∀ i, i < p → ow i = false)
    (hbind : ∀ (kV doc pm : Value) (an : Option Addr) (cdv ct : Value) (us : List Value), us.length = ps.length → bindArgs (PySem.W.fnOf d.name d.qual d.params d.body d.scope .none kV doc pm an cdv ct) ⟨us, []⟩ = pure (ps.zip us))
    (hb : ∀ (cdv : Value) (A : Around) (outer : List PySem.Env) (s : Shared) (H : Hp) (E : XK), Ctx (cxOf (L2N.CX P w) P w K mg base N d.qual d.scope f cdv A outer s H E) (WD E) k →
      PSs (cxOf (L2N.CX P w) P w K mg base N d.qual d.scope f cdv A outer s H E) d.body (tS3 false K (WD E) ow oN oB m)) (hx : ow.x = none := by rfl) : MethOk P w K mg base (k + 1) cls mn p (fn p n m) := by
  obtain ⟨fd, F⟩ := F
  subst hpl hnl
  exact ⟨f, fd, ps, hc, hme, FunD.bindsN F hbind, fn_ok F S hx hp hb, ar_fn⟩
end
section
variable {fa : List Fa} {fn : List DefD} {ts : List Tab} {ms : List (Frag → Bool)} {w : World} {K : Frag} {mg : Str → Option Value}
theorem Facts.cls (Y : Facts fa fn ts ms w K mg) (i : Nat) {x : String} (h : fa[i]? = some (.cls (Str.ofString x)) := by rfl) : Cls K (ca K x) := He.cls_ok (Y.c.d.fact i h)
theorem Facts.meth (Y : Facts fa fn ts ms w K mg) (i : Nat) {x : String} {m : Str} (h : fa[i]? = some (.meth (Str.ofString x) m) := by rfl) : Meth K (ca K x) m (He.ma K (ca K x) m) := He.meth_ok (Y.c.d.fact i h)
theorem Facts.int (Y : Facts fa fn ts ms w K mg) (i : Nat) {x : Str} {z : Int} (h : fa[i]? = some (.int x z) := by rfl) : ∃ t, mg x = some (.int z t) := by
  obtain ⟨_, KX, G⟩ := Y.h
  exact He.int_ok KX G (Y.c.d.fact i h)
theorem Facts.str (Y : Facts fa fn ts ms w K mg) (i : Nat) {x z : Str} (h : fa[i]? = some (.str x z) := by rfl) : ∃ t, mg x = some (.str z t) := by
  obtain ⟨_, KX, G⟩ := Y.h
  exact He.str_ok KX G (Y.c.d.fact i h)
end
/-! ### another name of a def -/
/-! ### zip -/
/-! ### x |= y -/
section
variable {X : Cx}
theorem ip_or : PIp X .BitOr (ipI fun i j => Builtin.bitOr i j) := by
  intro pins s σ H x y v u Q I r1 r2 h
  obtain ⟨i, j, e1, e2, q⟩ := h
  subst e1; subst e2
  obtain ⟨t, rfl⟩ := r1
  obtain ⟨t', rfl⟩ := r2
  exact PyProof.Rows.ior_int ⟨.int _, H, I.tok _, ⟨_, rfl⟩, q⟩
end
theorem h_ior {K : Frag} : ∀ x y H Q, r2 K oior x y H Q → ipI (fun i j => Builtin.bitOr i j) x y H Q := fun x y H Q ⟨A, d1, d2, d, h1, h2, _, e, k⟩ => by
  cases d1 <;> cases d2 <;> simp only [oior, Res.ok.injEq, reduceCtorEq] at e
  subst e
  exact ⟨_, _, h1, h2, k _ H (Same.refl H) (flat_rep (d := .int _) rfl _ _)⟩
theorem n_ior : NoEx2 oior := fun x y c fs => by cases x <;> cases y <;> exact fun z => nomatch z
end Py
namespace Py
open PySem PySem.Spec PyProof.Rows L2
/-! ### zip over any two of lists and tuples: k = true: a tuple -/
def IAt (k : Bool) (h : Heap) (it l : Addr) (i : Nat) : Prop := match k with | true => h.IsTupleIter it l i | false => h.IsListIter it l i
def SAt (k : Bool) (h : Heap) (l : Addr) (xs : Array Value) : Prop := match k with | true => h.IsTuple l xs | false => h.IsList l xs
theorem IAt.some {k : Bool} {h : Heap} {it l : Addr} {i : Nat} (x : IAt k h it l i) : ∃ o, h.get? it = some o ∧ ∀ v, o.data ≠ .cell v := by
  cases k with
  | true => obtain ⟨o, ho, _, d⟩ := x; exact ⟨o, ho, fun v q => by rw [d] at q; cases q⟩
  | false => obtain ⟨o, ho, _, d⟩ := x; exact ⟨o, ho, fun v q => by rw [d] at q; cases q⟩
section
variable {prog : Program} {w : World} {A : Around} {E : Value → Shared → Prop} {s : Shared}
theorem draw1 {k : Bool} {it l : Addr} {i : Nat} {xs : Array Value} {x : Value} {Q : Value → Shared → Prop} (a : IAt k s.heap it l i) (b : SAt k s.heap l xs) (hx : xs[i]? = some x)
    (q : ∀ h', IAt k h' it l (i + 1) → Heap.SameBut it s.heap h' → Q x { s with heap := h' }) : wpAny (model prog w) A (Builtin.SmallTypes.nextOf (.ref it)) Q E s := by
  cases k with
  | true => exact RZ.nextOf_tuple_item a b hx q
  | false => exact wpAny_nextOf_list_item a b hx q
end
/-! the turn -/
def SqK (k : Bool) (K : Frag) (H : Hp) (a : Addr) (xs : List V) : Prop := match k with | true => SqT K H a xs | false => SqL K H a xs
theorem SqK.at {k : Bool} {X : Cx} {pins : List (Addr × Obj)} {σ : L2.St} {H : Hp} {s : Shared} {a : Addr} {xs : List V} (I : Inv X pins σ H s) (q : SqK k X.K H a xs) : ∃ its, Vals xs its ∧ SAt k s.heap a its.toArray ∧ a < s.heap.objs.size := by
  cases k with
  | true =>
    obtain ⟨its, r, p, _⟩ := I.tuple q
    obtain ⟨o, ho, _⟩ := id p
    exact ⟨its, r, p, Heap.lt_size ho⟩
  | false =>
    obtain ⟨its, r, p, _⟩ := I.list q
    exact ⟨its, r, p.isList, p.lt⟩
theorem SqK.inj {k : Bool} {X : Cx} {pins : List (Addr × Obj)} {σ : L2.St} {H : Hp} {s : Shared} {a : Addr} {xs ys : List V} (I : Inv X pins σ H s) (q : SqK k X.K H a xs) (q' : SqK k X.K H a ys) : xs = ys := by
  cases k with
  | true => exact I.tuple_inj q q'
  | false => exact I.list_inj q q'
/-! ### zip in the mirror -/
end Py
/-! Who owns what, statement by statement. -/
namespace Py
open PySem L2
/-- the names that own what they hold -/
def ownS : List Nat → Nat → Bool
  | [], _ => false
  | j :: l, i => i == j || ownS l i
theorem owS_mem : ∀ {l : List Nat} {i : Nat}, ownS l i = true → i ∈ l
  | j :: l, i, h => by
    unfold ownS at h
    rw [Bool.or_eq_true] at h
    rcases h with h | h
    · exact List.mem_cons.mpr (.inl (by simpa using h))
    · exact List.mem_cons_of_mem _ (owS_mem h)
theorem owS_le {l l' : List Nat} (h : (l'.all fun i => ownS l i) = true) : ∀ i, ownS l' i = true → ownS l i = true := fun i hi => List.all_eq_true.mp h i (owS_mem hi)
theorem owS_add {l l' : List Nat} {i : Nat} (h : (l'.all fun j => j == i || ownS l j) = true ∧ ownS l' i = true ∧ (l.all fun j => ownS l' j) = true) : ∀ j, ownS l' j = (j == i || ownS l j) := fun j => by
  obtain ⟨h1, h2, h3⟩ := h
  cases e : ownS l' j with
  | true => exact (List.all_eq_true.mp h1 j (owS_mem e)).symm
  | false =>
    cases e2 : (j == i || ownS l j) with
    | false => rfl
    | true =>
      rw [Bool.or_eq_true] at e2
      rcases e2 with e2 | e2
      · rw [show j = i by simpa using e2, h2] at e
        cases e
      · rw [List.all_eq_true.mp h3 j (owS_mem e2)] at e
        cases e
abbrev owS (l : List Nat) : Ow := ⟨ownS l, none⟩
/-- .. while an error is held -/
abbrev Ow.hold (o : Ow) (i : Nat) (a da : Addr) (fs : List (String × D)) : Ow := ⟨fun j => j == i || o j, some ⟨i, a, da, fs⟩⟩
/-- the new owners know no more of an error -/
def XLe (o1 o : Ow) : Prop := o1.x = none ∨ (o1.x = o.x ∧ ∀ q, o1.x = some q → o q.i = true → o1 q.i = true)
theorem XLe.refl {o : Ow} : XLe o o := .inr ⟨rfl, fun _ _ z => z⟩
theorem XFact.cut {K : Frag} {A : AS} {H : Hp} {σ : L2.St} {e : Env} {o o1 : Ow} (h : XFact K A H σ e o) (l : XLe o1 o) : XFact K A H σ e o1 := fun q hq => by
  rcases l with l | ⟨l1, l2⟩
  · rw [l] at hq
    cases hq
  · obtain ⟨h1, h2, h3, h4⟩ := h q (l1 ▸ hq)
    exact ⟨l2 q hq h1, h2, h3, h4⟩
section
variable {fr : Bool} {K : Frag} {A : AS} {H0 : Base} {ow o1 oN oB : Ow} {O : OW} {σ : L2.St} {H H' : Hp} {e : Env}
def cutO (ow o1 : Ow) (O : OW) : OW := fun i => if ow i = true ∧ o1 i = false then none else O i
theorem cutO_some {i : Nat} {a : Addr} (h : cutO ow o1 O i = some a) : O i = some a := by
  unfold cutO at h
  split at h
  · cases h
  · exact h
theorem cut_less : ∀ a, AO A (cutO ow o1 O) a → AO A O a := fun a h => h.elim .inl fun ⟨i, q⟩ => .inr ⟨i, cutO_some q⟩
/-- some names give up what they own -/
theorem ER.part (R : ER K A H0 ow O σ H e) (h : ∀ i, o1 i = true → ow i = true) (h0 : ow 0 = true → o1 0 = true) (hx : XLe o1 ow) : ER K A H0 o1 (cutO ow o1 O) σ H e := by
  have mv : Mv (AO A O) H (AO A (cutO ow o1 O)) H := Mv.less cut_less
  have stay : ∀ i, o1 i = true → cutO ow o1 O i = O i := fun i hi => by
    unfold cutO
    rw [if_neg]
    rintro ⟨_, z⟩
    rw [hi] at z
    cases z
  refine ⟨R.len, R.a0, R.same, fun i d h1 h2 => ?_, fun i d h1 h2 => ?_, fun i a q => R.fresh i a (cutO_some q), fun i j a q q' => R.inj i j a (cutO_some q) (cutO_some q'), fun a q => ?_, (R.exq.heap mv fun _ _ e => e).cut hx⟩
  · cases hi : ow i with
    | false =>
      obtain ⟨v, q, r⟩ := R.vals i d h1 hi
      exact ⟨v, q, Rep.move mv _ _ r⟩
    | true =>
      obtain ⟨a, q, q2, r⟩ := R.owns i d h1 hi
      refine ⟨.ref a, q2, ?_⟩
      have na : ¬ AO A (cutO ow o1 O) a := by
        rintro (z | ⟨j, z⟩)
        · exact (R.fresh i a q).2.2 z
        · have e1 := R.inj i j a q (cutO_some z)
          subst e1
          unfold cutO at z
          rw [if_pos ⟨hi, h2⟩] at z
          cases z
      exact r.rep mv na
  · obtain ⟨a, q, q2, r⟩ := R.owns i d h1 (h i h2)
    exact ⟨a, (stay i h2).trans q, q2, r.move mv rfl⟩
  · have q0 := R.pin a q
    unfold cutO
    rw [if_neg]
    · exact q0
    · rintro ⟨z1, z2⟩
      rw [h0 z1] at z2
      cases z2
/-- a name is to own what comes next -/
theorem ER.opens (R : ER K A H0 ow O σ H e) {i : Nat} (hi : ow i = false) (hN : ∀ j, oN j = (j == i || ow j)) (hx : XLe oN ow) : ER K A H0 oN O σ H (e.set i none) := by
  have other : ∀ j d, (e.set i none)[j]? = some (some d) → i ≠ j ∧ e[j]? = some (some d) := fun j d h => by
    by_cases hj : i = j
    · subst hj
      have hl : i < e.length := by
        have := (List.getElem?_eq_some_iff.mp h).1
        simpa using this
      rw [List.getElem?_set_self hl] at h
      cases h
    · rw [List.getElem?_set_ne hj] at h
      exact ⟨hj, h⟩
  refine ⟨by simp [R.len], R.a0, R.same, fun j d h1 h2 => ?_, fun j d h1 h2 => ?_, R.fresh, R.inj, R.pin, (R.exq.move Mv.refl (fun _ _ e => e) fun j hj n => ?_).cut hx⟩
  rotate_right
  · have hne : i ≠ j := fun z => by
      rw [z, hj] at hi
      cases hi
    rw [List.getElem?_set_ne hne]
    exact ⟨rfl, n⟩
  · obtain ⟨hj, h3⟩ := other j d h1
    rw [hN, show (j == i) = false by simpa using fun z => hj z.symm, Bool.false_or] at h2
    exact R.vals j d h3 h2
  · obtain ⟨hj, h3⟩ := other j d h1
    rw [hN, show (j == i) = false by simpa using fun z => hj z.symm, Bool.false_or] at h2
    exact R.owns j d h3 h2
theorem EndOk3.le {o1 oB1 : Ow} {D : Ends} (hN : ∀ i, oN i = true → o1 i = true) (hN0 : o1 0 = true → oN 0 = true) (hB : ∀ i, oB i = true → oB1 i = true) (hB0 : oB1 0 = true → oB 0 = true) (hNx : XLe oN o1) (hBx : XLe oB oB1) : ∀ {f : Fl}, EndOk3 fr K A H0 oN oB O H D f → EndOk3 fr K A H0 o1 oB1 O H D f
  | .next _, h => fun O' σ' H' R n => h _ σ' H' (R.part hN hN0 hNx) (n.trans (Mv.less cut_less))
  | .ret _, h => h
  | .brk _, h => fun O' σ' H' R n => h _ σ' H' (R.part hB hB0 hBx) (n.trans (Mv.less cut_less))
  | .cnt _, h => fun O' σ' H' R n => h _ σ' H' (R.part hB hB0 hBx) (n.trans (Mv.less cut_less))
end
section
variable {fr : Bool} {X : Cx} {W : WX} {ow o1 oN oB : Ow} {a b c e : Expr} {es : List Expr} {m ma mb mc : EM} {st : Stmt} {rest body orelse : List Stmt} {u v : SM} {t : TM} {pos : Pos} {j : Nat}
/-- a statement that changes no owner -/
theorem s_up (h : PS X st (tS fr X.K W ow u)) (hB : ∀ i, oB i = true → ow i = true) (hB0 : ow 0 = true → oB 0 = true) (hx : XLe oB ow := by first | exact Or.inl rfl | exact XLe.refl | exact Or.inr ⟨rfl, by intro q z; cases z; intro _; rfl⟩) : PS X st (tS3 fr X.K W ow ow oB u) :=
  PS.of h fun D σ H ⟨A, H0, O, en, R, q⟩ => ⟨A, H0, O, en, R, q.good fun f q1 => q1.le (fun _ z => z) (fun z => z) hB hB0 XLe.refl hx⟩
theorem c_nil : PSs X [] (tS3 fr X.K W ow ow oB skip) := PSs.of pss_nil fun D σ H ⟨A, H0, O, en, R, q⟩ => q O σ H R Mv.refl
theorem c_one (h : PS X st (tS3 fr X.K W ow oN oB u)) : PSs X [st] (tS3 fr X.K W ow oN oB u) := pss_one h
theorem c_cons (h : PS X st (tS3 fr X.K W ow o1 oB u)) (k : PSs X rest (tS3 fr X.K W o1 oN oB v)) : PSs X (st :: rest) (tS3 fr X.K W ow oN oB (seq u v)) :=
  PSs.of (pss_cons h k) fun D σ H ⟨A, H0, O, en, R, q⟩ => ⟨A, H0, O, en, R, (Out.bind q).good fun f q1 => by
    cases f with
    | next e' => exact fun O' σ' H' R' mv => ⟨A, H0, O', e', R', q1.good fun f q2 => q2.to mv⟩
    | ret d => exact q1
    | brk e' => exact q1
    | cnt e' => exact q1⟩
/-- names give up what they own -/
theorem c_cut (h : PSs X rest (tS3 fr X.K W o1 oN oB v)) (h1 : ∀ i, o1 i = true → ow i = true) (h0 : ow 0 = true → o1 0 = true) (hx : XLe o1 ow := by first | exact Or.inl rfl | exact XLe.refl | exact Or.inr ⟨rfl, by intro q z; cases z; intro _; rfl⟩) : PSs X rest (tS3 fr X.K W ow oN oB v) :=
  PSs.of h fun D σ H ⟨A, H0, O, en, R, q⟩ => ⟨A, H0, _, en, R.part h1 h0 hx, q.good fun f q1 => q1.to (Mv.less cut_less)⟩
/-- a name gets a new object of its own -/
theorem c_own {i : Nat} (h : PS X st (tAsg (tF X.K W ow m) (gName i))) (hi : ow i = false) (hN : ∀ j, oN j = (j == i || ow j)) (h0 : 0 < i := by decide) (hx : XLe oN ow := by first | exact Or.inl rfl | exact XLe.refl | exact Or.inr ⟨rfl, by intro q z; cases z; intro _; rfl⟩) : PS X st (tS3 fr X.K W ow oN oB (asg (gnm i) m)) :=
  PS.of h fun D σ H ⟨A, H0, O, en, R, q⟩ => ⟨A, H0, O, en, R, ((Out.bind q).se R).good fun d q1 a H1 n s1 r1 => by
    have hNi : oN i = true := by rw [hN]; simp
    have hxi : ∀ q, oN.x = some q → q.i ≠ i := fun q hq z => by
      rcases hx with hx | ⟨hx, _⟩
      · rw [hx] at hq
        cases hq
      · have z2 := (R.exq q (hx ▸ hq)).own
        rw [z, hi] at z2
        cases z2
    obtain ⟨R2, mv⟩ := (R.opens hi hN hx).take s1 hxi hNi h0 n r1
    rw [List.set_set] at R2
    exact q1 _ _ H1 R2 mv⟩
theorem c_if (hc : PT X a (tT X.K W ow t)) (hb : PSs X body (tS3 fr X.K W ow oN oB u)) (ho : PSs X orelse (tS3 fr X.K W ow oN oB v)) : PS X (.If a body orelse pos) (tS3 fr X.K W ow oN oB (ite t u v)) :=
  PS.of (ps_if hc hb ho) fun D σ H ⟨A, H0, O, en, R, q⟩ => ⟨A, H0, O, en, R, ((Out.bind q).se R).good fun k q1 H1 s1 => by
    cases k with
    | true =>
      rw [if_pos rfl] at q1 ⊢
      exact ⟨A, H0, O, en, R.to s1, q1.good fun f q2 => q2.to (Mv.same s1)⟩
    | false =>
      rw [if_neg (by decide)] at q1 ⊢
      exact ⟨A, H0, O, en, R.to s1, q1.good fun f q2 => q2.to (Mv.same s1)⟩⟩
end
end Py
/-! Defs that give back a new list: their caller owns it. -/
namespace Py
open PySem L2
def spF (K : Frag) (p : Nat) (m : List D → Res D) : Sp := fun vs H Q E => ∃ A ds, RepL K A H ds vs ∧ ds.length = p ∧ (∀ a, A a → H a ≠ none) ∧
  Out (m ds) (fun d => (d = .non → ∀ H', Same H H' → Q .non H') ∧ ∀ a H', H a = none → Same H H' → OwnAt K (fun b => A b ∨ b = a) H' a d → Q (.ref a) H') (fun c fs => ∀ da H' fvs, Same H H' → H' da = some (.xd fvs) → RepF K A H' fs fvs → E (.ref (ca K c)) (some da) H')
theorem spF_le {K : Frag} {p : Nat} {m : List D → Res D} {vs : List V} {H : Hp} {Q : VK} {E : XK} (h : spM K p m vs H Q E) : spF K p m vs H Q E := by
  obtain ⟨A, ds, r, hl, ha, q⟩ := h
  refine ⟨A, ds, r, hl, ha, q.good fun d k => ⟨fun e H' s => ?_, fun a H' n s o => k (.ref a) H' s ?_⟩⟩
  · subst e
    exact k .non H' s rfl
  · have na : ¬ A a := fun z => ha a z n
    have mv : Mv (fun b => A b ∨ b = a) H' A H' := Mv.less fun b x => .inl x
    exact o.rep mv na
/-- the name x calls a def that gives back a new list -/
def CallF (P : Program) (w : World) (K : Frag) (mg : Str → Option Value) (base : Heap) (k : Nat) (x : Str) (d : He.DefD) (ps : List Str) (n : Nat) (fm : List D → Res D) : Prop := ∃ f fd, mg x = some (.ref f) ∧ PySem.W.keepIn K (.ref f) = true ∧ Binds K fd ps [] ∧ FnOk P w K mg base (L2N.CX P w) k f fd ps (spF K n fm) ∧ Ar n fm ∧ FunD K d.name d.qual d.params d.body d.scope [] [] f fd
theorem CallF.le {P : Program} {w : World} {K : Frag} {mg : Str → Option Value} {base : Heap} {k : Nat} {x : Str} {d : He.DefD} {ps : List Str} {n : Nat} {fm : List D → Res D} (C : CallF P w K mg base k x d ps n fm) : CallOk P w K mg base k x d ps n fm := by
  obtain ⟨f, fd, h1, h2, h3, h4, h5⟩ := C
  exact ⟨f, fd, h1, h2, h3, h4.imp fun _ _ _ _ z => spF_le z, h5⟩
end Py
/-! More expressions. -/
namespace Py
open PySem L2
theorem RepL.flat {K : Frag} {A : AS} {H : Hp} {ds : List D} {vs : List V} (h : RepL K A H ds vs) : ∀ n : Nat, RepL K A H (List.replicate n ds).flatten (List.replicate n vs).flatten
  | 0 => by simp [RepL]
  | n + 1 => by
    rw [List.replicate_succ, List.replicate_succ, List.flatten_cons, List.flatten_cons]
    exact h.append (RepL.flat h n)
section
variable {X : Cx} {W : WX} {ow : Ow} {a b : Expr} {ma mb : EM} {pos : Pos}
/-- [..] * n -/
theorem f_rep (ha : PE X a (tF X.K W ow ma)) (hb : PE X b (tW X.K W ow mb)) : PE X (.BinOp a .Mult b pos) (tF X.K W ow (bin olrep ma mb)) :=
  PE.of (pe_op op_rep ha hb) fun σ H Q ⟨A, H0, O, en, R, q⟩ => by
    refine ⟨A, H0, O, en, R, (Out.bind q).good fun d1 q1 l H1 n1 s1 r1 => ?_⟩
    refine ⟨A, H0, O, en, R.to s1, ((Out.bind q1).to s1).good fun d2 q2 v2 H2 s2 r2 => ?_⟩
    cases d1 with
    | lst xs =>
      cases d2 with
      | int k =>
        obtain ⟨vs, e1, p1⟩ := r1
        have e2 : v2 = .int k := rep_int r2
        subst e2
        by_cases hc : xs.length ≤ 1000 ∧ k.natAbs ≤ 1000
        · have e3 : olrep (.lst xs) (.int k) = .ok (.lst (List.replicate k.toNat xs).flatten) := if_pos hc
          rw [e3] at q2
          have q3 := q2
          have hl := p1.length
          refine ⟨l, k, vs, rfl, rfl, s2 _ _ e1, by omega, by omega, ?_, fun p hp => ?_⟩
          · have : vs.length * k.toNat ≤ 1000 * 1000 := Nat.mul_le_mul (by omega) (by omega)
            exact Nat.le_trans this (by decide)
          · have s12 := s1.trans s2
            have np1 : H1 p = none := by
              cases z : H1 p with
              | none => rfl
              | some o =>
                rw [s2 p o z] at hp
                cases hp
            have np : H p = none := by
              cases z : H p with
              | none => rfl
              | some o =>
                rw [s12 p o z] at hp
                cases hp
            have s3 : Same H2 (upd H2 p (.lst (List.replicate k.toNat vs).flatten)) := new_same hp
            refine q3 p _ np (s12.trans s3) ⟨_, upd_same, RepL.move ⟨fun b hb => ?_, fun b o e hb => (s2.trans s3) b o e⟩ _ _ (p1.flat k.toNat)⟩
            rcases hb with hb | hb
            · exact .inl (.inl hb)
            · rw [hb]
              exact .inr np1
        · have e3 : olrep (.lst xs) (.int k) = .stuck := if_neg hc
          rw [e3] at q2
          exact q2.elim
      | _ => exact (q2 : False).elim
    | _ => exact (show False from q2).elim
end
end Py
/-! The __init__ of an own exception: super().__init__(..), then its fields. -/
namespace Py
open PySem L2 PyProof.Rows
/-- an exception's __init__ that keeps what it is given, under these names -/
def spX (C : Addr) (n : Nat) (fs : List Str) : Sp := fun vs H Q E => ∃ a H1 ws, vs = .ref a :: ws ∧ H = upd H1 a (exo a C none) ∧ H1 a = none ∧ ws.length = n ∧
  ∀ d H2, H2 a = some (exo a C (some d)) → H2 d = some (exd d (fs.zip ws).reverse) → H1 d = none → d ≠ a → (∀ b, b ≠ a → b ≠ d → H2 b = H1 b) → Q .non H2
/-- what the written part tells of the class C whose __init__ is f -/
structure XIn (P : Program) (K : Frag) (C f cc cda : Addr) (nm qual : Str) (params : Arguments) (body : List Stmt) (scope : Scope) (fd : FuncData) : Prop where
  fn : ∃ (oc : Value) (od : Option Addr) (dV kV doc pm : Value) (an : Option Addr) (ct : Value) (osl : Array (Option Value)),
    fd = PySem.W.ksFn nm qual params body scope dV kV doc pm an (.ref cda) ct cc ∧ K.lookup f = some ⟨oc, od, .func fd, osl⟩
  cd : PySem.W.codeIn K (.ref cda) qual = true
  fl : ∃ (ccl : Value) (cdd : Option Addr) (vs : Array Value) (ccs : Array (Option Value)) (file : Str) (tf : Tok), K.lookup cda = some ⟨ccl, cdd, .fields vs, ccs⟩ ∧ vs[2]? = some (.str file tf) ∧ ((P.main.file : Str) == file) = true
  cell : ∃ (cl : Value) (cld : Option Addr) (csl : Array (Option Value)), K.lookup cc = some ⟨cl, cld, .cell (some (.ref C)), csl⟩
  T : OexC K C
  sup : PySem.W.ks_superIn K C C "__init__" = some (some (.builtin "ValueError.__init__"))
  ve : PySem.W.subIn K (.ref C) (.type "ValueError") = some true
  me : PySem.W.mroIn K C (.ref C) = some true
  thi : PySem.W.nsIn K cStatics "thirdparty.any" = some none
theorem oexC_cd {K : Frag} {C : Addr} (T : OexC K C) : ∃ (cd : ClassData) (dd : Option Addr) (sl : Array (Option Value)), PySem.W.clsIn K C = some cd ∧ K.lookup C = some ⟨.type "type", dd, .cls cd, sl⟩ := by
  obtain ⟨nm, q, N, bs, bm, sn, sub, ab, col, dd, k0, k1, k2, k3, k5, hC, hbm⟩ := T.cls
  exact ⟨_, dd, _, by unfold PySem.W.clsIn; rw [hC] <;> rfl, hC⟩
theorem hv_super : bootBuiltins "super" = some (.type "super") := by decide +kernel
section
variable {P : Program} {w : World} {K : Frag} {mg : Str → Option Value} {base : Heap} {C f cc cda : Addr} {nm qual self txt : Str} {params : Arguments} {body rest : List Stmt} {scope : Scope} {fd : FuncData} {N ps fs : List Str} {k : Nat} {ar : Arg}
theorem callWith_kxs {M : Model} {A : Around} {E : Value → Shared → Prop} {s : Shared} {i : String} {u x : Addr} {pos : Pos} {env : PySem.Env} {e : Expr} {es : List Expr} {Q : Value → Shared → Prop}
    (h : wpAny M A (spliced (backTo pos (starEach (e :: es) env))) (fun vs s₁ => PySem.W.KxsAt i u x s₁.heap ∧ wpAny M A (PySem.call (.ref u) vs) Q E s₁) E s)
    (he : starEach (e :: es) env = (false, eval e env) :: starEach es env := by rfl) (hplain : (backTo pos (starEach es env)).any (·.1) = false := by rfl) :
    wpAny M A (callWith pos (.ref u) [] (backTo pos (starEach (e :: es) env)) []) Q E s := by
  rw [he] at h ⊢
  refine PySem.W.kxs_callWith (i := i) (x := x) (by show (false || (backTo pos (starEach es env)).any (·.1)) = false; rw [hplain]; rfl) ?_
  exact PySem.Calls.evalArgs_plain h
/-- super().__init__(..) called: the object keeps its shape -/
theorem kxs_done {X : Cx} {pins : List (Addr × Obj)} {σ : L2.St} {H : Hp} {s : Shared} {A : Around} {E : Value → Shared → Prop} {u a C : Addr} {us : List Value} {Q : Value → Shared → Prop} (T : OexC X.K C) (I : Inv X pins σ H s) (e : H a = some (exo a C none)) (hu : s.heap.get? u = some (PySem.W.kxs_mw "ValueError.__init__" a))
    (hl : us.length ≤ sizeLine) (h : ∀ s', Inv X pins σ H s' → Q .none s') : wpAny (model X.prog X.w) A (PySem.call (.ref u) us) Q E s := by
  obtain ⟨nm, q, N, bs, bm, sn, sub, ab, col, dd, k0, k1, k2, k3, k5, hC, hbm⟩ := T.cls
  obtain ⟨t1, ho⟩ := exo_at I.hok e
  have hCh := I.kIn _ _ hC
  obtain ⟨hp, g, d, t, os⟩ := s
  refine wpAny_call (codeAny_of_tree ?_)
  show wpAny _ A.in1 (callAny (.ref u) ⟨us, []⟩) _ _ _
  simp only [callAny]
  refine wpAny_bind (wpAny_load hu ?_)
  simp only [PySem.W.kxs_mw, show (Value.type "method-wrapper" == Value.type "method" || Value.type "method-wrapper" == Value.type "builtin_function_or_method" || Value.type "method-wrapper" == Value.type "method-wrapper") = true by decide, if_true]
  refine PySem.W.KFB.if_so (by decide) ?_
  refine wpAny_bind (PySem.W.check_bound_init PySem.F.excBase_ValueError.toExcCallFacts hCh ho rfl ?_)
  refine wpAny_bind (wpAny_pure (wpAny_pure ?_))
  refine ⟨plainId_quiet PySem.F.excBase_ValueError.init.plain _, codeAny_builtin PySem.F.excBase_ValueError.initEntry ?_⟩
  refine PySem.W.exc_init_tree (cls := .ref C) (t0 := t1) (dv := none) (c2 := .none) (c3 := .none) (b4 := .bool false) ho hl fun h' kp hx ht => ?_
  have J := I.write (t' := t) (x := a) (e := a) (o := exo a C none) (by rw [e]; exact True.intro) (.inl rfl) kp ⟨_, hx⟩ (exo_ok hx)
  have eu : upd H a (exo a C none) = H := by
    funext b
    by_cases hb : b = a
    · rw [hb, upd_same, e]
    · rw [upd_ne hb]
  rw [eu] at J
  exact h _ J
theorem xinit_ok {n : Nat} (XI : XIn P K C f cc cda nm qual params body scope fd) (hps : ps = self :: fs) (hlen : fs.length = n) (S : NdefX.NScope N ps ["__class__"] scope) (har : (params.posonlyargs ++ params.args).head? = some ar) (hself : ar.arg = self)
    (hmg : mg "super" = none) (hsk : scope.names.lookup ("super" : Str) = some .globalImplicit) (htop : (P.main.scope.names.lookup ("super" : Str)).isSome = false)
    {p0 p1 p2 p3 p4 p5 : Pos} {j : Nat}
    (hbody : body = .Expr (.Call (.Attribute (.Call (.Name "super" p0) [] [] p1) "__init__" p2) [.Constant (.str txt) j p3] [] p4) p5 :: rest)
    {t : TS} (hb : ∀ (A : Around) (outer : List PySem.Env) (s : Shared) (H : Hp) (E : XK), PSs (NdefX.ncx (L2N.CX P w) P w K mg base N ⟨nm, qual, params, body, scope, [("__class__", cc)], cda⟩ f A outer s H E) rest t)
    (ht : ∀ (a : Addr) (ws : List V) (H1 : Hp) (D : Ends) (σ : L2.St), σ[0]? = some (some (.ref a)) → (∀ i v, ws[i]? = some v → σ[i + 1]? = some (some v)) → ws.length = n → H1 a = none →
      (∀ d H2 σ', H2 a = some (exo a C (some d)) → H2 d = some (exd d (fs.zip ws).reverse) → H1 d = none → d ≠ a → (∀ b, b ≠ a → b ≠ d → H2 b = H1 b) → D.nx σ' H2) → t D σ (upd H1 a (exo a C none)))
    (hin : ∀ (L : Addr), interactive (PySem.W.ksEnv qual scope L f (.ref cda) cc) = false := by intro _; rfl)
    (hsw : ∀ (L : Addr), swapsWith (.Call (.Attribute (.Call (.Name "super" p0) [] [] p1) "__init__" p2) [.Constant (.str txt) j p3] [] p4) none p5.line (PySem.W.ksEnv qual scope L f (.ref cda) cc) = pure false := by intro _; rfl)
    {pl : Sem Bool} (hea : ∀ (L : Addr), eval (.Call (.Attribute (.Call (.Name "super" p0) [] [] p1) "__init__" p2) [.Constant (.str txt) j p3] [] p4) (PySem.W.ksEnv qual scope L f (.ref cda) cc) = (do
      let ov ← attributeBase (.Call (.Name "super" p0) [] [] p1) "__init__" (PySem.W.ksEnv qual scope L f (.ref cda) cc) (eval (.Call (.Name "super" p0) [] [] p1) (PySem.W.ksEnv qual scope L f (.ref cda) cc))
      standAt p2.atName
      let (g, first) ← holding [ov] (getMethod ov "__init__" pl)
      callWith p4 g first (backTo p4 (starEach [.Constant (.str txt) j p3] (PySem.W.ksEnv qual scope L f (.ref cda) cc))) []) := by intro _; rfl)
    (hst : ∀ (L : Addr), starEach [.Constant (.str txt) j p3] (PySem.W.ksEnv qual scope L f (.ref cda) cc) = [(false, eval (.Constant (.str txt) j p3) (PySem.W.ksEnv qual scope L f (.ref cda) cc))] := by intro _; rfl) :
    FnOk P w K mg base (L2N.CX P w) (k + 1) f fd ps (spX C n fs) := by
  subst hps
  obtain ⟨oc, od, dV, kV, doc, pm, an, ct, osl, rfl, lk⟩ := XI.fn
  obtain ⟨ccl, cdd, cvs, ccs, file, tf, hcode, hvs, hfile⟩ := XI.fl
  obtain ⟨cl, cld, csl, hcell⟩ := XI.cell
  obtain ⟨cdC, ddC, slC, hcls, hClk⟩ := oexC_cd XI.T
  have len : ∀ vs H Q E, spX C n fs vs H Q E → vs.length = (self :: fs).length := fun vs H Q E ⟨a, H1, ws, e, _, _, l, _⟩ => by
    rw [e, List.length_cons, List.length_cons, l, hlen]
  refine ⟨len, fun A outer s H args us vs Q E hr e0 hbi r hsp => ?_⟩
  have hl := len _ _ _ _ hsp
  obtain ⟨a, H1, ws, rfl, rfl, ha, hwl, q⟩ := hsp
  have KX : K.In s.heap := e0.mod.kin.keeps fun b o e => (e0.bs b o e).1
  have lim : s.heap.NoLimit := e0.mod.nolimit.keeps fun b o e => (e0.bs b o e).1
  refine ks_codeAny_call_defAt (binds := (self :: fs).zip us) (body := body) hr.depth (KX _ _ lk) rfl lim (PySem.W.codeRec_of KX XI.cd) rfl hbi S.nocell (fun ⟨m, _⟩ hy => S.par m (List.of_mem_zip hy).1) (fun h₁ hns kp => ?_) S.co S.gen S.kind
  have hbase : K.In base := e0.mod.kin
  have hcB : base.get? cc = some ⟨cl, cld, .cell (some (.ref C)), csl⟩ := hbase _ _ hcell
  have CA : NdefX.CellsAt [("__class__", cc)] ["__class__"] [none] s.heap (upd H1 a (exo a C none)) := by
    refine ⟨rfl, fun y c e => ?_, fun x y c e1 e2 => ?_, fun i y e => ?_⟩
    · have hc : c = cc := by
        have := PySem.mem_of_lookup e
        simpa using (Prod.mk.inj (List.mem_singleton.mp this)).2
      subst hc
      exact ⟨(e0.bs _ _ hcB).2, _, _, (e0.bs _ _ hcB).1, rfl⟩
    · have h1 := (Prod.mk.inj (List.mem_singleton.mp (PySem.mem_of_lookup e1))).1
      have h2 := (Prod.mk.inj (List.mem_singleton.mp (PySem.mem_of_lookup e2))).1
      exact h1.trans h2.symm
    · cases i with
      | zero =>
        simp only [List.getElem?_cons_zero, Option.some.injEq] at e
        subst e
        exact ⟨cc, rfl, fun v z => by simp at z⟩
      | succ i => simp at e
  have I := NdefX.inv_startN (CX := L2N.CX P w) (f := f) (E := E) (F := ⟨nm, qual, params, body, scope, [("__class__", cc)], cda⟩) (tk := s.toks + ((self :: fs).zip us).length) S hr.hd e0 hl r CA hns kp
  obtain ⟨u0, us', rfl, ru0⟩ : ∃ u0 us', us = u0 :: us' ∧ L2.RelV (.ref a) u0 := by
    cases r with
    | cons r1 r2 => exact ⟨_, _, rfl, r1⟩
  obtain rfl : u0 = Value.ref a := ru0
  have hv : ((self :: fs).zip (Value.ref a :: us')).reverse.lookup self = some (.ref a) := by
    have nd : (self :: fs).Nodup := by
      have q := S.nd.sublist (List.take_sublist ((self :: fs).length + (["__class__"] : List Str).length) N)
      rw [S.pre] at q
      exact (List.nodup_append.mp q).1
    exact NdefX.zip_look (i := 0) nd rfl rfl
  have ea : (upd H1 a (exo a C none)) a = some (exo a C none) := upd_same
  subst hbody
  refine ks_wpAt_execs_cons (ks_wpAt_Expr_any (ks_wpAt_MethodCall (pl := pl) ?_ (hea _)) (hin _) (hsw _))
  refine ks_wpAt_super_base (f := f) (cc := cda) (ar := ar) hsk (S.frk _ List.mem_cons_self) rfl rfl (I.kIn _ _ lk) rfl har rfl (I.kIn _ _ hcode) rfl hvs hfile htop ?_
  obtain ⟨mb, hmb, hmb2⟩ := I.mod.blt
  refine PySem.W.ks_loadName_global S.kind hsk (PySem.Calls.loadGlobal_builtin (I.mod.glob.keeps I.bk) hmg (hmb.keeps I.bk) ((hmb2 "super" (by decide)).trans hv_super) ⟨rfl, ?_⟩)
  refine wpAny_loadName_free S.kind (S.frk _ List.mem_cons_self) rfl ⟨_, I.kIn _ _ hcell, rfl⟩ ?_
  refine wpAny_loadName_local S.kind (by rw [hself]; exact S.par _ List.mem_cons_self) hns (by rw [hself]; exact hv) ?_
  refine ks_wpAny_isType_cls (I.kIn _ _ hClk) rfl ⟨rfl, ?_⟩
  obtain ⟨t1, hat⟩ := exo_at I.hok ea
  refine ks_wpAny_call_super (I.kIn _ _ hClk) rfl hat rfl (fun c z => nomatch z) (PySem.W.looks_mroIn I.kIn XI.me) fun h2 hso kp2 => ?_
  have I2 := I.kept (t' := s.toks + ((self :: fs).zip (Value.ref a :: us')).length) kp2
  have hmr : PySem.W.Looks (model P w) h2 (mroOf (.ref C)) cdC.mro := fun A Q E s k q => wpAny_bind ((PySem.W.looks_clsIn I2.kIn hcls) A _ E s k (wpAny_pure q))
  have hsup := XI.sup
  unfold PySem.W.ks_superIn at hsup
  rw [hcls] at hsup
  have hat2 := kp2 _ _ hat
  have hIA : PySem.W.InstAt h2 a { cls := .ref C, dict := none, data := .fields #[.ref t1, .none, .none, .none, .bool false, .none] } C none := ⟨hat2, rfl, rfl, trivial⟩
  refine PySem.W.kxs_getMethod PySem.W.kxs_ValueError hso (PySem.W.looks_opaque I2.kIn XI.thi) hmr rfl I2.kIn hsup (hIA.type.andThen (PySem.W.looks_subIn I2.kIn XI.ve)) (PySem.W.ks_ne I2.kIn hIA hcls) (by decide) ?_
  have kp3 : ∀ b o, h2.get? b = some o → (h2.push (PySem.W.kxs_mw "ValueError.__init__" a)).get? b = some o := fun b o e => Heap.get?_push_of_some _ e
  have hu : (h2.push (PySem.W.kxs_mw "ValueError.__init__" a)).get? h2.objs.size = some (PySem.W.kxs_mw "ValueError.__init__" a) := Heap.get?_push_size _ rfl
  have I3 := I2.kept (t' := s.toks + ((self :: fs).zip (Value.ref a :: us')).length + 1) kp3
  have I4 := I3.pins_of (pins' := [(h2.objs.size, PySem.W.kxs_mw "ValueError.__init__" a)]) fun p hp => by
    obtain rfl := List.mem_singleton.mp hp
    exact ⟨hu, I2.hok.fresh (Nat.le_refl _), Nat.ne_of_gt I2.lt, I2.nofs (Nat.le_refl _), fun v z => nomatch z⟩
  refine callWith_kxs (i := "ValueError.__init__") (u := h2.objs.size) (x := a) ?_ (hst _) rfl
  have ha1 := (pa_cons (pe_str (x := txt) (j := j) (pos := p3)) pa_nil (hst s.heap.objs.size)).run p4 _ _ _ _ (fun vs H2 => vs.length ≤ sizeLine ∧ H2 = upd H1 a (exo a C none)) I4 ⟨by rw [sizeLine_eq]; simp, rfl⟩
  refine wpAny_mono ha1 (fun us2 s2 ⟨vs, H2, I5, r5, hl5, e5⟩ => ?_) fun e s' z => z
  subst e5
  have hu5 := (I5.pin (h2.objs.size, PySem.W.kxs_mw "ValueError.__init__" a) (List.mem_append_right _ List.mem_cons_self)).1
  refine ⟨hu5, ?_⟩
  refine kxs_done XI.T I5 ea hu5 (by rw [← r5.length]; exact hl5) fun s' I6 => ?_
  refine PySem.wpAt_of_wpAny ?_
  have I' := I6.unpinned (pins := []) 
  refine wpAny_mono ((hb A outer s (upd H1 a (exo a C none)) E).run [] _ _ _ { nx := fun _ H' => Q .non H', rt := fun _ _ => False } I' (ht a ws H1 _ _ rfl (fun i v hi => ?_) hwl ha fun d H2 σ' k1 k2 k3 k4 k5 => q d H2 k1 k2 k3 k4 k5)) (fun fl s' hs => ?_) fun e s' hs => hs
  · unfold NdefX.startF
    have hi2 := (List.getElem?_eq_some_iff.mp hi).1
    rw [List.getElem?_append_left (by simpa using hi2)]
    simp [hi]
  · cases fl with
    | next =>
      obtain ⟨σ', H', J, q⟩ := hs
      exact ⟨.non, H', J.os, J.bare, J.base, J.hok, rfl, q⟩
    | ret u =>
      obtain ⟨_, _, _, _, _, q⟩ := hs
      exact q.elim
    | brk =>
      obtain ⟨_, _, _, q⟩ := hs
      exact False.elim q
    | cont =>
      obtain ⟨_, _, _, q⟩ := hs
      exact False.elim q
end
section
variable {X : Cx} {CX : CXT} {x : Str} {C fI : Addr} {k : Nat} {fd : FuncData} {ps : List Str} {sp : Sp} {e : Expr} {es : List Expr} {ta : TA} {p pos : Pos}
/-- C(e, ..) makes an error that came out of nothing -/
theorem pmkN (T : OexC X.K C) (iC : PySem.W.findIn X.K (.ref C) "__init__" = some (some (.ref fI))) (tI : PySem.W.typeIn X.K (.ref fI) = some (.type "function"))
    (F1 : FnOk X.prog X.w X.K X.mg X.base CX k fI fd ps sp) (hr : Room (k + 1) X.A) (hb : Binds X.K fd ps []) (hx : Passes CX X (fun _ _ _ => False)) (hg : Gl X x) (hm : X.mg x = some (.ref C)) (ha : PA X (e :: es) ta)
    (hdb : (x == ("__debug__" : Str)) = false) (he : starEach (e :: es) X.env = (false, eval e X.env) :: starEach es X.env) (hpl : (backTo pos (starEach es X.env)).any (·.1) = false) :
    L2N.PMk X (.Call (.Name x p) (e :: es) [] pos) (tMkO C sp [] ta) := by
  intro pins s0 σ H Q I h
  have key : ∀ (us : List Value) (s : Shared), (∃ (vs : List V) (H1 : Hp), Inv X pins σ H1 s ∧ Vals vs us ∧ vs.length ≤ 1000 ∧ ∀ a, H1 a = none → sp (.ref a :: (vs ++ [])) (upd H1 a (exo a C none))
      (fun v H2 => v = .non ∧ ∃ (d : Addr) (fs : List (Str × V)), H2 a = some (exo a C (some d)) ∧ H2 d = some (exd d fs) ∧ H1 d = none ∧ Q (.ref C) (some d) (upd (del H2 a) d (.xd fs))) (fun _ _ _ => False)) →
      wpAny (model X.prog X.w) X.A (PySem.call (.ref C) us) (L2N.MkP X pins σ Q) X.xe s := by
    rintro us ⟨hp, g, dr, tk, os⟩ ⟨vs, H1, I1, r1, hz, q1⟩
    obtain ⟨nm, q, N, bs, bm, sn, sub, ab, col, dd, k0, k1, k2, k3, k5, hC, hbm⟩ := T.cls
    have hus : us.length ≤ sizeLine := by
      rw [← Paired.length r1, sizeLine_eq]
      omega
    have hsz : hp.objs.size ≤ hp.objs.size + 1 := Nat.le_add_right _ _
    have hq := q1 _ (I1.hok.fresh hsz)
    rw [List.append_nil] at hq
    have kk : ∀ b o, hp.get? b = some o → ((hp.push (PySem.W.kdv_tup us)).push (PySem.HandSPX.excO C hp.objs.size)).get? b = some o := fun b o z => Heap.get?_push_of_some _ (Heap.get?_push_of_some _ z)
    have new : ObjOk X.prog X.w (upd H1 (hp.objs.size + 1) (exo (hp.objs.size + 1) C none)) ((hp.push (PySem.W.kdv_tup us)).push (PySem.HandSPX.excO C hp.objs.size)) (hp.objs.size + 1) (exo (hp.objs.size + 1) C none) := exo_ok (t1 := hp.objs.size) (by heap_get)
    have I2 : Inv X pins σ _ ⟨_, g, dr, tk, os⟩ := I1.laid (t' := tk) kk hsz new
    have r2 : Vals (V.ref (hp.objs.size + 1) :: vs) (Value.ref (hp.objs.size + 1) :: us) := .cons rfl r1
    have hl2 := r2.length.symm.trans (F1.len _ _ _ _ hq)
    have b2 := hb _ (Value.ref (hp.objs.size + 1) :: us) I2.kIn (by rw [List.append_nil]; exact hl2)
    rw [List.append_nil] at b2
    have run := F1.run (X.A.under (.builtin "type.__call__" ⟨.ref C :: us, []⟩)) X.stack _ _ ⟨_, []⟩ _ _ _ _ (hr.make C us []) (I2.env0.make C us []) b2 r2 hq
    refine wpAny_call (PySem.HandSPX.call_own PySem.F.excBase_ValueError (fun Y => PySem.HandSPX.refsVE_contains Y bm hbm) (I1.kIn _ _ hC) (PySem.W.looks_findIn I1.kIn iC) (fun self => PySem.W.bind_fn I1.kIn self tI) hus (codeAny_mono run ?_))
    intro r s' hq'
    match r, hq' with
    | .error er, z => exact hx pins σ _ _ er s' I2 z
    | .ok (.ret u), z =>
      obtain ⟨v, H2, os2, bare2, un2, hok2, rv, ev, d, fs, ea, ed, hd1, q2⟩ := z
      subst ev
      obtain ⟨h2, g2, d2, t2, os'⟩ := s'
      obtain ⟨t0, G, J, kG, ge, hoe, na⟩ := mk_end0 (d2 := d2) (t2 := t2) I1 hsz kk un2 hok2 os2 bare2 ea ed hd1
      refine ⟨rv, ?_⟩
      exact ⟨_, _, _, ⟨G, g2, d2, t2, os'⟩, _, _, some d, rfl, J, kG, ge, hoe, ⟨rfl, rfl, fun ws hv => by cases hv <;> rfl⟩, rfl, rfl, na, rfl, bare2, raises_own T.exC T.tyC, q2⟩
    | .ok .next, z => exact False.elim z
    | .ok .brk, z => exact False.elim z
    | .ok .cont, z => exact False.elim z
  refine wpAny_Call_Name_kw (ld_glob I hg hm ?_ hdb)
  refine PySem.W.callWith_K (h₀ := X.base) I.ok.mod.kin T.kC (thn (ha.run pos pins s0 σ H _ I h) fun us s1 hh => ?_) he hpl
  obtain ⟨vs, H1, I1, r1, z⟩ := hh
  exact ⟨I1.kIn, key us s1 ⟨vs, H1, I1, r1, z⟩⟩
end
end Py
/-! Errors of own classes: what the head tells of them, raise. -/
namespace Py
open PySem L2
open He (Fa DefD Tab FnW)
/-! ### facts -/
def fnWx (K : Frag) (p : Str × Option Str) : FnW := match K.lookup (He.fAd K p) with
  | some ⟨_, _, .func fd, _⟩ => some (fd.name, fd.qualname, fd.params, fd.body, fd.scope, fd.globals, [], fd.builtins)
  | _ => none
/-- the class's own __init__ closes over the class, its code stands in the file -/
def cloB (file : Str) (c : String) (q : Str) (K : Frag) : Bool := match K.lookup (He.ma K (ca K c) "__init__") with
  | some ⟨_, _, .func fd, _⟩ => (match fd.code, fd.closure with
    | .ref cda, [(y, cc)] => decide (y = ("__class__" : Str)) && (decide (fd.defaults = .none) && (PySem.W.codeIn K (.ref cda) q &&
      ((match K.lookup cc with | some ⟨_, _, .cell (some (.ref D)), _⟩ => decide (D = ca K c) | _ => false) &&
        (match K.lookup cda with | some ⟨_, _, .fields vs, _⟩ => (match (vs[2]? : Option Value) with | some (.str z _) => decide (z = file) | _ => false) | _ => false))))
    | _, _ => false)
  | _ => false
def oexB (c : String) (K : Frag) : Bool := match K.lookup (ca K c) with
  | some ⟨.type "type", _, .cls cd, sl⟩ => (match cd.mro, sl.toList with
    | .ref C' :: bm, [_, _, _, _, some (.builtin n), _] => decide (C' = ca K c) && (decide (n = "ValueError.__new__") && (cd.hasDict && (!cd.hasDel && PySem.HandSPX.refsVE bm)))
    | _, _ => false)
  | _ => false
theorem oexB_ok {c : String} {K : Frag} (h : oexB c K = true) : ∃ nm q N bs bm sn sub ab col dd k0 k1 k2 k3 k5, K.lookup (ca K c) = some (excClassObj nm q (ca K c) N bs bm true sn sub ab col dd k0 k1 k2 k3 k5 "ValueError.__new__") ∧ PySem.HandSPX.refsVE bm = true := by
  unfold oexB at h
  split at h
  · rename_i dd cd sl ho
    split at h
    · rename_i C' bm k0 k1 k2 k3 n k5 hm hs
      simp only [Bool.and_eq_true, decide_eq_true_eq, Bool.not_eq_true'] at h
      obtain ⟨h1, h2, h3, h4, h5⟩ := h
      obtain ⟨nm, bs, mro, ns, qn, hd, sn, sub, ab, col, del⟩ := cd
      dsimp only at hm h3 h4
      subst hm h3 h4 h1 h2
      have hsl : sl = #[k0, k1, k2, k3, some (.builtin "ValueError.__new__"), k5] := by
        obtain ⟨l⟩ := sl
        simp only at hs
        rw [hs]
      subst hsl
      exact ⟨nm, qn, ns, bs, bm, sn, sub, ab, col, dd, k0, k1, k2, k3, k5, ho, h5⟩
    · cases h
  · cases h
/-- all that is asked of the class c -/
def errB (file : Str) (c : String) (q : Str) (fs : List String) (K : Frag) : Bool := cloB file c q K && (oexB c K &&
  (decide (PySem.W.findIn K (.ref (ca K c)) "__setattr__" = some (some (.builtin "object.__setattr__"))) && (decide (PySem.W.subIn K (.ref (ca K c)) (.type "BaseException") = some true) &&
  (decide (PySem.W.typeIn K (.ref (ca K c)) = some (.type "type")) && (PySem.W.keepIn K (.ref (ca K c)) &&
  (decide (PySem.W.ks_superIn K (ca K c) (ca K c) "__init__" = some (some (.builtin "ValueError.__init__"))) && (decide (PySem.W.subIn K (.ref (ca K c)) (.type "ValueError") = some true) &&
  (decide (PySem.W.mroIn K (ca K c) (.ref (ca K c)) = some true) && (decide (PySem.W.nsIn K cStatics "thirdparty.any" = some none) &&
  (decide (PySem.W.findIn K (.ref (ca K c)) "__init__" = some (some (.ref (He.ma K (ca K c) "__init__")))) && (decide (PySem.W.typeIn K (.ref (He.ma K (ca K c) "__init__")) = some (.type "function")) &&
  fs.all fun f => decide (PySem.W.findIn K (.ref (ca K c)) (Str.ofString f) = some none))))))))))))
structure ErrF (P : Program) (K : Frag) (c : String) (nm qual : Str) (params : Arguments) (body : List Stmt) (scope : Scope) (fs : List String) : Prop where
  xin : ∃ cc cda fd, XIn P K (ca K c) (He.ma K (ca K c) "__init__") cc cda nm qual params body scope fd ∧ ∃ kV doc pm an ct, fd = PySem.W.ksFn nm qual params body scope .none kV doc pm an (.ref cda) ct cc
  ini : PySem.W.findIn K (.ref (ca K c)) "__init__" = some (some (.ref (He.ma K (ca K c) "__init__")))
  typ : PySem.W.typeIn K (.ref (He.ma K (ca K c) "__init__")) = some (.type "function")
  no : ∀ f ∈ fs, PySem.W.findIn K (.ref (ca K c)) (Str.ofString f) = some none
theorem err_f {P : Program} {K : Frag} {c : String} {d : DefD} {file : Str} {fs : List String} (hat : d.at_ = (Str.ofString c, some ("__init__" : Str))) (hf : ((P.main.file : Str) == file) = true) (e : fnWx K d.at_ = d.val) (h : errB file c d.qual fs K = true) : ErrF P K c d.name d.qual d.params d.body d.scope fs := by
  unfold errB at h
  simp only [Bool.and_eq_true, decide_eq_true_eq, List.all_eq_true] at h
  obtain ⟨hc, ho, h1, h2, h3, h4, h5, h6, h7, h8, h9, h10, h11⟩ := h
  have hfa : He.fAd K d.at_ = He.ma K (ca K c) "__init__" := by rw [hat] <;> rfl
  unfold cloB at hc
  unfold fnWx at e
  rw [hfa] at e
  cases q : K.lookup (He.ma K (ca K c) "__init__") with
  | none =>
    rw [q] at hc
    cases hc
  | some o =>
    obtain ⟨oc, od, dt, osl⟩ := o
    rw [q] at hc e
    cases dt with
    | func fd =>
      obtain ⟨n1, n2, n3, n4, n5, n6, n7, n8, n9, n10, n11, n12, n13, n14, n15⟩ := fd
      have e2 : (some (n1, n2, n3, n4, n5, n6, [], n15) : FnW) = some (d.name, d.qual, d.params, .stmts d.body, d.scope, mainGlobals, [], builtinsNs) := e
      simp only [Option.some.injEq, Prod.mk.injEq, true_and] at e2
      obtain ⟨g1, g2, g3, g4, g5, g6, g8⟩ := e2
      subst g1 g2 g3 g4 g5 g6 g8
      dsimp only at hc
      split at hc
      · rename_i cda y cc
        simp only [Bool.and_eq_true, decide_eq_true_eq] at hc
        obtain ⟨c1, c2, c3, c4, c5⟩ := hc
        subst c1 c2
        split at c4
        · rename_i cl cld D csl hcell
          have hD : D = ca K c := of_decide_eq_true c4
          subst hD
          split at c5
          · rename_i ccl cdd vs ccs hcode
            split at c5
            · rename_i z tf hz
              have hz2 : z = file := of_decide_eq_true c5
              subst hz2
              exact ⟨⟨cc, cda, _, ⟨⟨oc, od, _, n9, n10, n11, n12, n14, osl, rfl, q⟩, c3, ⟨ccl, cdd, vs, ccs, z, tf, hcode, hz, hf⟩, ⟨cl, cld, csl, hcell⟩, ⟨oexB_ok ho, h1, h2, h3, h4⟩, h5, h6, h7, h8⟩, n9, n10, n11, n12, n14, rfl⟩, h9, h10, h11⟩
            · cases c5
          · cases c5
        · cases c4
      · cases hc
    | _ => cases hc
/-- the name c makes an error that keeps what it is given under the names ns -/
structure ErrOk (P : Program) (w : World) (K : Frag) (mg : Str → Option Value) (base : Heap) (k : Nat) (c : String) (ns : List String) : Prop where
  ex : ∃ f fd ps, mg (Str.ofString c) = some (.ref (ca K c)) ∧ OexC K (ca K c) ∧ PySem.W.findIn K (.ref (ca K c)) "__init__" = some (some (.ref f)) ∧ PySem.W.typeIn K (.ref f) = some (.type "function") ∧ Binds K fd ps [] ∧
    FnOk P w K mg base (L2N.CX P w) k f fd ps (spX (ca K c) ns.length (ns.map Str.ofString))
/-! ### its fields, laid one behind another -/
section
variable {K : Frag} {f g : Str} {C : Addr}
theorem fld_one (T : OexC K C) (hno : PySem.W.findIn K (.ref C) f = some none) {a : Addr} {ws : List V} {H1 : Hp} {D : Ends} {σ : L2.St} (h0 : σ[0]? = some (some (.ref a))) (h1 : ∀ i v, ws[i]? = some v → σ[i + 1]? = some (some v)) (hl : ws.length = 1) (hn : H1 a = none)
    (q : ∀ d H2 σ', H2 a = some (exo a C (some d)) → H2 d = some (exd d (([f] : List Str).zip ws).reverse) → H1 d = none → d ≠ a → (∀ b, b ≠ a → b ≠ d → H2 b = H1 b) → D.nx σ' H2) : tOst K f (tVar 0) (tVar 1) D σ (upd H1 a (exo a C none)) := by
  match ws, hl with
  | [v], _ =>
    refine ⟨v, h1 0 v rfl, _, h0, a, C, rfl, T, hno, .inl ⟨upd_same, fun dx hdx hne => q dx _ σ upd_same ?_ ?_ hne fun b hb hd => ?_⟩⟩
    · rw [upd_ne hne, upd_same]
      rfl
    · rw [upd_ne hne] at hdx
      exact hdx
    · rw [upd_ne hb, upd_ne hd, upd_ne hb]
theorem fld_two (T : OexC K C) (hno : PySem.W.findIn K (.ref C) f = some none) (hno2 : PySem.W.findIn K (.ref C) g = some none) {a : Addr} {ws : List V} {H1 : Hp} {D : Ends} {σ : L2.St} (h0 : σ[0]? = some (some (.ref a))) (h1 : ∀ i v, ws[i]? = some v → σ[i + 1]? = some (some v)) (hl : ws.length = 2) (hn : H1 a = none)
    (q : ∀ d H2 σ', H2 a = some (exo a C (some d)) → H2 d = some (exd d (([f, g] : List Str).zip ws).reverse) → H1 d = none → d ≠ a → (∀ b, b ≠ a → b ≠ d → H2 b = H1 b) → D.nx σ' H2) : tSeq (tOst K f (tVar 0) (tVar 1)) (tOst K g (tVar 0) (tVar 2)) D σ (upd H1 a (exo a C none)) := by
  match ws, hl with
  | [v, w], _ =>
    refine ⟨v, h1 0 v rfl, _, h0, a, C, rfl, T, hno, .inl ⟨upd_same, fun dx hdx hne => ?_⟩⟩
    have hdx2 : H1 dx = none := by
      rw [upd_ne hne] at hdx
      exact hdx
    refine ⟨w, h1 1 w rfl, _, h0, a, C, rfl, T, hno2, .inr ⟨dx, [(f, v)], upd_same, ?_, by simp, q dx _ σ ?_ ?_ hdx2 hne fun b hb hd => ?_⟩⟩
    · rw [upd_ne hne, upd_same]
    · rw [upd_ne hne.symm, upd_same]
    · rw [upd_same]
      rfl
    · rw [upd_ne hd, upd_ne hb, upd_ne hd, upd_ne hb]
end
theorem ErrF.T {P : Program} {K : Frag} {c : String} {nm qual : Str} {params : Arguments} {body : List Stmt} {scope : Scope} {fs : List String} (F : ErrF P K c nm qual params body scope fs) : OexC K (ca K c) := by
  obtain ⟨⟨cc, cda, fd, XI, _⟩, _⟩ := F
  exact XI.T
/-! ### raise -/
theorem RepF.append {K : Frag} {A : AS} {H : Hp} : ∀ {fs gs : List (String × D)} {us vs : List (Str × V)}, RepF K A H fs us → RepF K A H gs vs → RepF K A H (fs ++ gs) (us ++ vs)
  | [], gs, us, vs, h, k => by
    simp only [RepF] at h
    subst h
    exact k
  | (n, d) :: fs, gs, us, vs, h, k => by
    simp only [RepF] at h
    obtain ⟨v, r, rfl, h1, h2⟩ := h
    simp only [List.cons_append, RepF]
    exact ⟨v, r ++ vs, rfl, h1, RepF.append h2 k⟩
theorem repF_zip {K : Frag} {A : AS} {H : Hp} : ∀ {ns : List String} {ds : List D} {vs : List V}, RepL K A H ds vs → RepF K A H (ns.zip ds).reverse ((ns.map Str.ofString).zip vs).reverse
  | [], ds, vs, h => by simp [RepF]
  | n :: ns, [], vs, h => by
    simp only [RepL] at h
    subst h
    simp [RepF]
  | n :: ns, d :: ds, vs, h => by
    simp only [RepL] at h
    obtain ⟨v, r, rfl, h1, h2⟩ := h
    simp only [List.zip_cons_cons, List.map_cons, List.reverse_cons]
    refine RepF.append (repF_zip h2) ?_
    simp only [RepF]
    exact ⟨v, [], rfl, h1, rfl⟩
section
variable {fr : Bool} {X : Cx} {W : WX} {ow oN oB : Ow} {e : Expr} {es : List Expr} {am : AM} {pos p rpos : Pos} {k j : Nat} {c : String} {ns : List String}
theorem s_raise (T : Ctx X W j) (C : ErrOk X.prog X.w X.K X.mg X.base k c ns) (hk : k + 1 ≤ j) (hg : Gl X (Str.ofString c)) (ha : PA X (e :: es) (aE X.K W ow am)) (hz : ns.length ≤ 1000 := by decide)
    (hdb : (Str.ofString c == ("__debug__" : Str)) = false := by decide) (he : starEach (e :: es) X.env = (false, eval e X.env) :: starEach es X.env := by rfl) (hpl : (backTo pos (starEach es X.env)).any (·.1) = false := by rfl) :
    PS X (.Raise (some (.Call (.Name (Str.ofString c) p) (e :: es) [] pos)) none rpos) (tS3 fr X.K W ow oN oB (rais c ns am)) := by
  obtain ⟨f, fd, ps, hm, TO, hi, ht, hb, F⟩ := C.ex
  refine PS.of (L2N.ps_raise T.calm T.tk (pmkN TO hi ht F (T.hr.mono hk) hb passLN hg hm ha hdb he hpl)) fun D σ H ⟨A, H0, O, en, R, q⟩ => ?_
  refine ⟨A, H0, O, en, R, ((Out.bind (show Out (am en >>= fun ds => if ds.length = ns.length then (Res.exc c (ns.zip ds).reverse : Res Fl) else .stuck) _ _ from q)).se R).good fun ds q1 vs H1 s1 r1 => ?_⟩
  have r2 := paired_rep r1
  by_cases hl : ds.length = ns.length
  · rw [if_pos hl] at q1
    refine ⟨by rw [← r2.length, hl]; exact hz, fun a hn => ⟨a, H1, vs ++ [], by simp, rfl, hn, by simp [← r2.length, hl], fun d H2 k1 k2 k3 k4 k5 => ⟨rfl, d, _, k1, k2, k3, ?_⟩⟩⟩
    have sm : Same H1 (upd (del H2 a) d (.xd ((ns.map Str.ofString).zip (vs ++ [])).reverse)) := fun b o eb => by
      have hba : b ≠ a := ne_of_none eb hn
      have hbd : b ≠ d := ne_of_none eb k3
      rw [upd_ne hbd, del_ne hba, k5 b hba hbd]
      exact eb
    refine (show badS X.K W A H0 c (ns.zip ds).reverse from q1) σ d _ _ (R.same.trans (s1.trans sm)) upd_same ?_
    have r3 : RepL X.K A (upd (del H2 a) d (.xd ((ns.map Str.ofString).zip (vs ++ [])).reverse)) ds (vs ++ []) := by
      have r4 : RepL X.K A _ ds vs := RepL.move (Mv.less (A := AO A O) (A' := A) fun b hb => Or.inl hb) ds vs (RepL.move (Mv.same sm) ds vs r2)
      simpa using r4
    exact repF_zip r3
  · rw [if_neg hl] at q1
    exact q1.elim
end
end Py
/-! Within an except suite, and within what is called there. -/
namespace Py
open PySem L2 L2H
structure CtxH (X : Cx) (W : WX) (k : Nat) : Prop where
  tk : L2N.Takes X W
  po : PassesOwn (model X.prog X.w) X.A X.env X.xe
  hr : RoomH k X.A
  hot : HotC X
  nd : X.N.Nodup
theorem CtxH.eq {X : Cx} {W : WX} {k : Nat} (T : CtxH X W k) : OpR X (compareOp .Eq) (r2 X.K oeq) := y_eq (by have := T.hr.un; omega)
theorem CtxH.ne {X : Cx} {W : WX} {k : Nat} (T : CtxH X W k) : OpR X (compareOp .NotEq) (r2 X.K one) := y_ne (by have := T.hr.un; omega)
/-! ### loops over a range -/
section
variable {fr : Bool} {X : Cx} {W : WX} {ow oN oB : Ow} {a : Expr} {ma : EM} {pos p : Pos} {u : SM} {body : List Stmt}
theorem pih_of {tg iter : Expr} {t t' : TI} (h : PIH X tg iter t) (k : ∀ σ H R, t' σ H R → t σ H R) : PIH X tg iter t' := ⟨fun pins s σ H R I q => h.run pins s σ H R I (k σ H R q)⟩
theorem i_rng1H {tg : Expr} (hg : Gl X "range") (hm : X.mg "range" = none) (ha : PE X a (tE X.K W ow ma)) (hs : starEach [a] X.env = [(false, eval a X.env)] := by rfl) : PIH X tg (.Call (.Name "range" p) [a] [] pos) (tI Mv X.K W ow (irng1 ma)) :=
  pih_of (pi_range1H hg hm (pa_cons ha pa_nil hs) hs) fun σ H R' h => rng1_of h
theorem s_forH {tg iter : Expr} {it : IM} {ts : List Nat} {g : GM} (hp : PassesOwn (model X.prog X.w) X.A X.env X.xe) (hc : HotC X) (hi : PIH X tg iter (tI Mv X.K W ow it)) (hg : PG X tg (tGt X.K ow ts g)) (hb : PSs X body (tS fr X.K W ow u))
    (hs : ∀ x, foldedSetIterable iter X.env x = pure x := by intro _; rfl) : PS X (.For tg iter body [] pos) (tS fr X.K W ow (for_ it g u)) :=
  PS.of (ps_forH hp hc hi hg hb hs) fun D σ H h => for_of h
end
/-! ### calls -/
def CallH (P : Program) (w : World) (K : Frag) (mg : Str → Option Value) (base : Heap) (k : Nat) (x : Str) (d : He.DefD) (ps : List Str) (n : Nat) (fm : List D → Res D) : Prop := ∃ f fd, mg x = some (.ref f) ∧ PySem.W.keepIn K (.ref f) = true ∧ Binds K fd ps [] ∧ FnH P w K mg base (L2N.CX P w) k f fd ps (spM K n fm) ∧ Ar n fm
theorem FnH.mono {P : Program} {w : World} {K : Frag} {mg : Str → Option Value} {base : Heap} {CX : CXT} {j k : Nat} {f : Addr} {fd : FuncData} {ps : List Str} {sp : Sp} (F : FnH P w K mg base CX j f fd ps sp) (h : j ≤ k) : FnH P w K mg base CX k f fd ps sp :=
  ⟨F.len, fun A outer s H args us vs Q E p hr => F.run A outer s H args us vs Q E p (hr.mono h)⟩
section
variable {X : Cx} {W : WX} {ow : Ow} {e : Expr} {es : List Expr} {am : AM} {pos p : Pos} {k j n : Nat} {x : Str} {fm : List D → Res D} {d : He.DefD} {ps : List Str}
theorem x_own1H (T : CtxH X W j) (C : CallH X.prog X.w X.K X.mg X.base k x d ps n fm) (hk : k ≤ j) (hg : Gl X x) (ha : PA X (e :: es) (aE X.K W ow am)) (hdb : (x == ("__debug__" : Str)) = false := by decide)
    (he : starEach (e :: es) X.env = (false, eval e X.env) :: starEach es X.env := by rfl) (hpl : (backTo pos (starEach es X.env)).any (·.1) = false := by rfl) : PE X (.Call (.Name x p) (e :: es) [] pos) (tE X.K W ow (call fm am)) := by
  obtain ⟨f, fd, h1, h2, h3, h4, h5⟩ := C
  refine PE.of (pe_callH (E := WE W) h4 (T.hr.mono hk) T.hot hg h1 h2 h3 (fun σ => L2N.passAt T.tk σ) ha hdb he hpl) fun σ H Q h => ?_
  obtain ⟨A, H0, O, en, R, q⟩ := call_of (n := n) (E := WE W) (fun _ _ _ _ z => z) h h5.ok h5.ex
  exact ⟨A, H0, O, en, R, q.good fun ds k vs H1 s1 r1 => by
    have z : spM X.K n fm (vs ++ []) H1 Q (WE W σ) := k vs H1 s1 r1
    rw [List.append_nil] at z
    exact z⟩
end
section
variable {P : Program} {w : World} {K : Frag} {mg : Str → Option Value} {base : Heap} {k : Nat} {ow oN oB : Ow} {m : SM} {f : Addr} {N ps : List Str} {p n : Nat}
theorem def_okH {d : He.DefD} (F : ∃ fd, FunD K d.name d.qual d.params d.body d.scope [] [] f fd) (g : mg d.name = some (.ref f)) (S : FnScope N ps d.scope) (hpl : ps.length = p) (hnl : N.length = n) (hp : ∀ i, i < p → ow i = false)
    (hbind : ∀ (kV doc pm : Value) (an : Option Addr) (cdv ct : Value) (us : List Value), us.length = ps.length → bindArgs (PySem.W.fnOf d.name d.qual d.params d.body d.scope .none kV doc pm an cdv ct) ⟨us, []⟩ = pure (ps.zip us))
    (hb : ∀ (cdv : Value) (A : Around) (outer : List PySem.Env) (s : Shared) (H : Hp) (E : XK) (q : Addr × Obj), CtxH (cxH (L2N.CX P w) P w K mg base N d.qual d.scope f cdv A outer s H E q) (WD E) k →
      PSs (cxH (L2N.CX P w) P w K mg base N d.qual d.scope f cdv A outer s H E q) d.body (tS3 false K (WD E) ow oN oB m)) (hx : ow.x = none := by rfl) : CallH P w K mg base (k + 1) d.name d ps p (fn p n m) := by
  obtain ⟨fd, F⟩ := F
  subst hpl hnl
  refine ⟨f, fd, g, F.kp, FunD.bindsN F hbind, ?_, ar_fn⟩
  obtain ⟨oc, od, dV, kV, doc, pm, an, cdv, ct, osl, rfl, lk, hcd, _, _⟩ := F.ex
  refine fn_ofH lk hcd S (fun vs H Q E ⟨A, ds, r, h, _⟩ => r.length.symm.trans h) fun A outer s H vs Q E q hot hr h => ?_
  exact ⟨tS3 false K (WD E) ow oN oB m, hb cdv A outer s H E q ⟨L2N.takes_of rfl rfl rfl rfl, passes_of rfl, hr, ⟨q, ⟨hot.1, hot.2⟩, List.mem_singleton.mpr rfl⟩, S.nd⟩, spM_start (pre_le S.pre) hx hp h⟩
end
end Py
/-! try .. except X as e, and what is asked of e. -/
namespace Py
open PySem L2 L2H
/-! ### facts -/
def xcV (K : Frag) (t : String) : V := if t = "ValueError" then .ty "ValueError" else .ref (ca K t)
def xcU (K : Frag) (t : String) : Value := if t = "ValueError" then .type "ValueError" else .ref (ca K t)
theorem xc_cls (K : Frag) (t : String) : ClsV (xcV K t) (xcU K t) := by
  unfold xcV xcU
  split
  · exact .ty _
  · exact .own _
def ersB (es all fl : List String) (K : Frag) : Bool := es.all fun c =>
  (PySem.W.clsIn K (ca K c)).isSome && (decide (PySem.W.findIn K (.ref (ca K c)) "__getattribute__" = some (some (.builtin "BaseException.__getattribute__"))) && (decide (PySem.W.findIn K (.ref (ca K c)) "__getattr__" = some none) &&
  (decide (PySem.W.subIn K (.ref (ca K c)) (.type "BaseException") = some true) && (decide (PySem.W.findIn K (.ref (ca K c)) "__class__" = some (some (.builtin "object.__class__"))) &&
  (decide (PySem.W.specialIn K (.builtin "object.__class__") "__get__" = some (some (.builtin "getset_descriptor.__get__"))) && (decide (PySem.W.takesIn K (.builtin "object.__class__") = some true) && (decide (PySem.W.mroIn K (ca K c) (.type "object") = some true) &&
  (PySem.W.hasDictIn K (ca K c) && (decide (PySem.W.exmOne K (.ref (ca K c)) (.ref (ca K "CarryError")) = some true) &&
  ((all.all fun t => decide (PySem.W.kitOne K (.ref (ca K c)) (xcU K t) = some (xisa c [t]))) && fl.all fun f => decide (PySem.W.findIn K (.ref (ca K c)) (Str.ofString f) = some none)))))))))))
structure ErC (K : Frag) (all fl : List String) (c : String) : Prop where
  cl : (PySem.W.clsIn K (ca K c)).isSome = true
  ga : PySem.W.findIn K (.ref (ca K c)) "__getattribute__" = some (some (.builtin "BaseException.__getattribute__"))
  gg : PySem.W.findIn K (.ref (ca K c)) "__getattr__" = some none
  be : PySem.W.subIn K (.ref (ca K c)) (.type "BaseException") = some true
  cc : PySem.W.findIn K (.ref (ca K c)) "__class__" = some (some (.builtin "object.__class__"))
  cg : PySem.W.specialIn K (.builtin "object.__class__") "__get__" = some (some (.builtin "getset_descriptor.__get__"))
  ct : PySem.W.takesIn K (.builtin "object.__class__") = some true
  ob : PySem.W.mroIn K (ca K c) (.type "object") = some true
  hd : PySem.W.hasDictIn K (ca K c) = true
  ex : PySem.W.exmOne K (.ref (ca K c)) (.ref (ca K "CarryError")) = some true
  kt : ∀ t ∈ all, PySem.W.kitOne K (.ref (ca K c)) (xcU K t) = some (xisa c [t])
  fl : ∀ f ∈ fl, PySem.W.findIn K (.ref (ca K c)) (Str.ofString f) = some none
def ErsOk (K : Frag) (es all fl : List String) : Prop := ∀ c ∈ es, ErC K all fl c
theorem ers_ok {K : Frag} {es all fl : List String} (h : ersB es all fl K = true) : ErsOk K es all fl := fun c hc => by
  have h1 := List.all_eq_true.mp h c hc
  simp only [Bool.and_eq_true, decide_eq_true_eq, List.all_eq_true] at h1
  obtain ⟨a1, a2, a3, a4, a5, a6, a7, a8, a9, b1, b2, b3⟩ := h1
  exact ⟨a1, a2, a3, a4, a5, a6, a7, a8, a9, b1, b2, b3⟩
theorem xisa_cons (c t : String) (ts : List String) : xisa c (t :: ts) = (xisa c [t] || xisa c ts) := by
  unfold xisa
  simp
theorem kit_anyE {K : Frag} {all fl : List String} {c : String} (E : ErC K all fl c) : ∀ {ts : List String}, (∀ t ∈ ts, t ∈ all) → PySem.W.kitAny K (.ref (ca K c)) (ts.map (xcU K)) = some (xisa c ts)
  | [], _ => rfl
  | t :: ts, h => by
    rw [xisa_cons]
    refine L2.kitAny_cons (E.kt t (h t List.mem_cons_self)) (fun e => ?_) (fun e => by rw [e]; rfl)
    rw [e, Bool.false_or]
    exact kit_anyE E fun u hu => h u (List.mem_cons_of_mem _ hu)
/-! ### the body: an error leaves the names as they are -/
def tB (fr : Bool) (K : Frag) (W : WX) (ow oN oB : Ow) (m : SM) : TS := fun D σ H => ∃ A H0 O e, ER K A H0 ow O σ H e ∧ Out (m e) (EndOk3 fr K A H0 oN oB O H D) (badE K W A O σ H)
section
variable {fr : Bool} {X : Cx} {W : WX} {ow oN oB : Ow} {a e : Expr} {es' : List Expr} {m : EM} {st : Stmt} {rest body orelse : List Stmt} {u v : SM} {t : TM} {pos p : Pos} {j : Nat}
theorem b_drop (h : PS X st (tDrop (tE X.K W ow m))) : PS X st (tB fr X.K W ow ow oB (drop m)) :=
  PS.of h fun D σ H ⟨A, H0, O, en, R, q⟩ => ⟨A, H0, O, en, R, (Out.bind q).good fun d q1 v H1 s1 r1 => q1 O σ H1 (R.to s1) (Mv.same s1)⟩
theorem b_set {i : Nat} (h : PS X st (tAsg (tE X.K W ow m) (gName i))) (hi : ow i = false) : PS X st (tB fr X.K W ow ow oB (asg (gnm i) m)) :=
  PS.of h fun D σ H ⟨A, H0, O, en, R, q⟩ => ⟨A, H0, O, en, R, (Out.bind q).good fun d q1 v H1 s1 r1 => q1 O _ H1 ((R.to s1).set hi r1) (Mv.same s1)⟩
theorem b_if (hc : PT X a (tT X.K W ow t)) (hb : PSs X body (tB fr X.K W ow oN oB u)) (ho : PSs X orelse (tB fr X.K W ow oN oB v)) : PS X (.If a body orelse pos) (tB fr X.K W ow oN oB (ite t u v)) :=
  PS.of (ps_if hc hb ho) fun D σ H ⟨A, H0, O, en, R, q⟩ => ⟨A, H0, O, en, R, (Out.bind q).good fun k q1 H1 s1 => by
    cases k with
    | true =>
      rw [if_pos rfl] at q1 ⊢
      exact ⟨A, H0, O, en, R.to s1, (q1.to s1).good fun f q2 => q2.to (Mv.same s1)⟩
    | false =>
      rw [if_neg (by decide)] at q1 ⊢
      exact ⟨A, H0, O, en, R.to s1, (q1.to s1).good fun f q2 => q2.to (Mv.same s1)⟩⟩
theorem bs_one (h : PS X st (tB fr X.K W ow oN oB u)) : PSs X [st] (tB fr X.K W ow oN oB u) := pss_one h
end
/-! ### try -/
theorem Ctx.tr {X : Cx} {W W' : WX} {k : Nat} (c : Ctx X W k) {pn : List (Addr × Obj)} {xe : Value → Shared → Prop} (tk : L2N.Takes (X.tr pn xe) W') (po : PassesOwn (model X.prog X.w) X.A X.env xe) : Ctx (X.tr pn xe) W' k := ⟨c.calm, tk, po, c.hr, c.nd⟩
section
variable {fr : Bool} {X : Cx} {W : WX} {ow oN oB : Ow} {body suite : List Stmt} {b₀ : Stmt} {u : SM} {h : String → List (String × D) → SM} {np pos pos' : Pos} {j i : Nat} {es all fl : List String} {x n : Str}
theorem ER.catch {K : Frag} {A : AS} {H0 : Base} {O : OW} {σ : L2.St} {H : Hp} {e : Env} (R : ER K A H0 ow O σ H e) (ho : ow.x = none) (hi : i < σ.length) {a da : Addr} {fs : List (String × D)} {fvs : List (Str × V)} (hd : H da = some (.xd fvs)) (r : RepF K (AO A O) H fs fvs) (hw : ow i = false) :
    ER K A H0 (ow.hold i a da fs) O (σ.set i (some (.ref a))) H (e.set i none) := by
  have other : ∀ k d, (e.set i none)[k]? = some (some d) → i ≠ k ∧ e[k]? = some (some d) := fun k d q => by
    by_cases hk : i = k
    · subst hk
      have hl : i < e.length := by rw [← R.len]; exact hi
      rw [List.getElem?_set_self hl] at q
      cases q
    · rw [List.getElem?_set_ne hk] at q
      exact ⟨hk, q⟩
  have off : ∀ k, i ≠ k → (ow.hold i a da fs) k = ow k := fun k hk => by
    show (k == i || ow k) = ow k
    rw [show (k == i) = false by simpa using fun z => hk z.symm, Bool.false_or]
  refine ⟨by simp [R.len], R.a0, R.same, fun k d h1 h2 => ?_, fun k d h1 h2 => ?_, R.fresh, R.inj, R.pin, fun q hq => ?_⟩
  · obtain ⟨hk, h3⟩ := other k d h1
    rw [off k hk] at h2
    rw [List.getElem?_set_ne hk]
    exact R.vals k d h3 h2
  · obtain ⟨hk, h3⟩ := other k d h1
    rw [off k hk] at h2
    rw [List.getElem?_set_ne hk]
    exact R.owns k d h3 h2
  · have hq2 : some (⟨i, a, da, fs⟩ : Xh) = some q := hq
    cases hq2
    refine ⟨by show (i == i || ow i) = true; simp, List.getElem?_set_self hi, fun d z => (other i d z).1 rfl, fvs, hd, r⟩
/-- behind the suite the name is gone -/
theorem ER.uncatch {K : Frag} {A : AS} {H0 : Base} {O : OW} {σ : L2.St} {H : Hp} {e : Env} {a da : Addr} {fs : List (String × D)} (R : ER K A H0 (oN.hold i a da fs) O σ H e) (ho : oN.x = none) : ER K A H0 oN O (σ.set i none) H (e.set i none) := by
  have hown := R.exq ⟨i, a, da, fs⟩ rfl
  have other : ∀ k d, (e.set i none)[k]? = some (some d) → i ≠ k ∧ e[k]? = some (some d) := fun k d q => by
    by_cases hk : i = k
    · subst hk
      by_cases hl : i < e.length
      · rw [List.getElem?_set_self hl] at q
        cases q
      · rw [List.getElem?_eq_none (by simp; omega)] at q
        cases q
    · rw [List.getElem?_set_ne hk] at q
      exact ⟨hk, q⟩
  have off : ∀ k, i ≠ k → (oN.hold i a da fs) k = oN k := fun k hk => by
    show (k == i || oN k) = oN k
    rw [show (k == i) = false by simpa using fun z => hk z.symm, Bool.false_or]
  refine ⟨by simp [R.len], R.a0, R.same, fun k d h1 h2 => ?_, fun k d h1 h2 => ?_, R.fresh, R.inj, R.pin, XFact.none ho⟩
  · obtain ⟨hk, h3⟩ := other k d h1
    rw [List.getElem?_set_ne hk]
    exact R.vals k d h3 ((off k hk).trans h2)
  · obtain ⟨hk, h3⟩ := other k d h1
    rw [List.getElem?_set_ne hk]
    exact R.owns k d h3 ((off k hk).trans h2)
theorem s_try (T : Ctx X W j) (E : ErsOk X.K es all fl) (hbe : X.mg "CarryError" = some (.ref (ca X.K "CarryError"))) (hg : Gl X "CarryError") (hi : X.N[i]? = some n) (hw : ow i = false) (ho : ow.x = none) (hoN : oN.x = none)
    (hb : ∀ (W' : WX) (pn : List (Addr × Obj)) (xe : Value → Shared → Prop), Ctx (X.tr pn xe) W' j → PSs (X.tr pn xe) body (tB fr X.K W' ow oN oB u))
    (hsu : ∀ (a : Addr) (oe : Obj) (c : String) (da : Addr) (fs : List (String × D)) (pn : List (Addr × Obj)), c ∈ es → Zc (.ref (ca X.K c)) (some da) oe → (∃ vs, oe.data = .fields vs) → CtxH (X.suite a ((a, oe) :: pn)) W0 j →
      PSs (X.suite a ((a, oe) :: pn)) (b₀ :: suite) (tS3 fr X.K W0 (ow.hold i a da fs) (oN.hold i a da fs) (oB.hold i a da fs) (h c fs)))
    (hs : X.stack = X.env :: X.outer := by rfl) (hf : X.env.frame = some X.env.locals := by rfl) (hln : X.env.kindOf n = some .local := by rfl) :
    PS X (.Try body [.ExceptHandler (some (.Name "CarryError" np)) (some n) (b₀ :: suite) pos'] [] [] pos) (tS3 fr X.K W ow oN oB (tryE es i u h)) := by
  refine PS.of (L2N.ps_try_as (c := .ref (ca X.K "CarryError")) (i := i) (ts := fun a cls d Dn σ H => ∃ (c : String) (da : Addr) (fs : List (String × D)), c ∈ es ∧ cls = .ref (ca X.K c) ∧ d = some da ∧ tS3 fr X.K W0 (ow.hold i a da fs) (oN.hold i a da fs) (oB.hold i a da fs) (h c fs) Dn σ H) (tb := fun W' => tB fr X.K W' ow oN oB u)
    hs hf T.nd hi hln ⟨hg, by decide, .inl hbe⟩ T.tk (fun W' pn xe tk po => hb W' pn xe (T.tr tk po)) fun a oe cls d pn hz hv => ⟨fun pins s σ H D I q => ?_⟩) fun D σ H ⟨A, H0, O, en, R, q⟩ => ?_
  · obtain ⟨c, da, fs, hc, rfl, rfl, q⟩ := q
    obtain ⟨vs, hvs⟩ := hv
    exact (hsu a oe c da fs pn hc hz.zc ⟨vs, hvs⟩ ⟨takes0N, PassesOwn.never, ⟨T.hr.dp, T.hr.un⟩, ⟨(a, oe), ⟨rfl, vs, hvs, hz.2.2 vs hvs⟩, List.mem_cons_self⟩, T.nd⟩).run pins s σ H D I q
  · refine ⟨A, H0, O, en, R, ?_⟩
    have q' : Out (tryE es i u h en) (EndOk3 fr X.K A H0 oN oB O H D) (badS X.K W A H0) := q
    unfold tryE at q'
    cases hu : u en with
    | ok f =>
      rw [hu] at q'
      exact q'
    | stuck =>
      rw [hu] at q'
      exact q'.elim
    | exc c fs =>
      rw [hu] at q'
      dsimp only at q'
      split at q'
      · rename_i hc0
        rw [Bool.and_eq_true, decide_eq_true_eq] at hc0
        have hc : c ∈ es := by simpa using hc0.1
        have hlt : i < σ.length := by rw [R.len]; exact hc0.2
        intro da H' fvs s' hd r
        refine ⟨true, (E c hc).ex, fun _ a ha => ⟨c, da, fs, hc, rfl, rfl, A, H0, O, en.set i none, (R.to s').catch ho hlt hd r hw, ?_⟩, fun z => nomatch z⟩
        cases hh : h c fs (en.set i none) with
        | exc c2 fs2 =>
          rw [hh] at q'
          exact q'.elim
        | stuck =>
          rw [hh] at q'
          exact q'.elim
        | ok f =>
          rw [hh] at q'
          cases f with
          | next e' =>
            have q2 : EndOk3 fr X.K A H0 oN oB O H D (.next (e'.set i none)) := q'
            exact fun O' σ' H2 R' mv => q2 O' _ H2 (ER.uncatch R' hoN) ((Mv.same s').trans mv)
          | ret d =>
            have q2 : EndOk3 fr X.K A H0 oN oB O H D (.ret d) := q'
            exact q2
          | brk e' => exact q'.elim
          | cnt e' => exact q'.elim
      · exact q'.elim
end
end Py
/-! What a suite asks of the caught error: isinstance, fields. -/
namespace Py
open PySem L2 L2H
open He (Fa DefD Tab FnW)
section
variable {X : Cx} {a da : Addr} {oe : Obj} {pn : List (Addr × Obj)} {c : String} {es all fl : List String}
theorem suite_inst {pins : List (Addr × Obj)} {σ : L2.St} {H : Hp} {s : Shared} {fvs : List (Str × V)} (I : Inv (X.suite a ((a, oe) :: pn)) pins σ H s) (hz : Zc (.ref (ca X.K c)) (some da) oe) (hv : ∃ vs, oe.data = .fields vs) (hd : H da = some (.xd fvs)) : ∃ od, PySem.W.InstAt s.heap a oe (ca X.K c) (some od) := by
  obtain ⟨vs, hvs⟩ := hv
  obtain ⟨mA, hns, hr⟩ := (show ObjOk X.prog X.w H s.heap da (.xd fvs) from I.hok da _ hd)
  obtain ⟨od, ho, _⟩ := lookIn_ns hns
  exact ⟨od, (I.pin (a, oe) (List.mem_append_left _ List.mem_cons_self)).1, hz.1, by unfold PySem.W.notCls; rw [hvs] <;> rfl, by rw [hz.2]; exact ho⟩
theorem call_xis1 (E : ErC X.K all fl c) (hz : Zc (.ref (ca X.K c)) (some da) oe) (hv : ∃ vs, oe.data = .fields vs) : CallR (X.suite a ((a, oe) :: pn)) (.builtin "isinstance")
    (fun xs H Q => ∃ (cV : V) (u : Value) (b : Bool) (fvs : List (Str × V)), xs = [.ref a, cV] ∧ ClsV cV u ∧ H da = some (.xd fvs) ∧ PySem.W.kitOne X.K (.ref (ca X.K c)) u = some b ∧ Q (.bl b) H) := by
  intro pins s σ H xs us Q I r h
  obtain ⟨cV, u, b, fvs, rfl, k, hd, e, q⟩ := h
  obtain ⟨u1, u2, rfl, r1, r2⟩ := vals2 r
  cases (show u1 = Value.ref a from r1)
  have e2 := k.eq r2
  subst e2
  obtain ⟨od, J⟩ := suite_inst I hz hv hd
  exact PySem.W.kia_one (PySem.W.kitx_exc E.cl E.ga E.gg E.be E.cc E.cg E.ct E.ob) I.kIn J e (fun z => nomatch z) fun tk => ⟨.bl b, H, I.tok tk, rfl, q⟩
theorem call_xisT (E : ErC X.K all fl c) (hz : Zc (.ref (ca X.K c)) (some da) oe) (hv : ∃ vs, oe.data = .fields vs) : CallR (X.suite a ((a, oe) :: pn)) (.builtin "isinstance")
    (fun xs H Q => ∃ (tp : Addr) (cs : List V) (ws : List Value) (b : Bool) (fvs : List (Str × V)), xs = [.ref a, .ref tp] ∧ H tp = some (.tup cs) ∧ Paired ClsV cs ws ∧ H da = some (.xd fvs) ∧ PySem.W.kitAny X.K (.ref (ca X.K c)) ws = some b ∧ Q (.bl b) H) := by
  intro pins s σ H xs us Q I r h
  obtain ⟨tp, cs, ws, b, fvs, rfl, hT, k, hd, e, q⟩ := h
  obtain ⟨u1, u2, rfl, r1, r2⟩ := vals2 r
  cases (show u1 = Value.ref a from r1)
  cases (show u2 = Value.ref tp from r2)
  obtain ⟨od, J⟩ := suite_inst I hz hv hd
  obtain ⟨hz2, its, rv, o, h1, h2, n, h3⟩ := (show ObjOk X.prog X.w H s.heap tp (.tup cs) from I.hok tp _ hT)
  have e3 := ClsV.all k rv
  subst e3
  obtain ⟨oc, od2, dt, sl⟩ := o
  simp only at h2 h3
  subst h2 h3
  exact PySem.W.kia_tup (PySem.W.kitx_exc E.cl E.ga E.gg E.be E.cc E.cg E.ct E.ob) I.kIn J h1 e (fun z => nomatch z) fun tk => ⟨.bl b, H, I.tok tk, rfl, q⟩
end
/-- a tuple of classes as written, by names -/
inductive XcL (X : Cx) : List Expr → List String → TA → Prop
  | nil : XcL X [] [] tNil
  | cons {e : Expr} {es : List Expr} {t : String} {ts : List String} {r : TA} (h : PE X e (tC (xcV X.K t))) (k : XcL X es ts r) (hs : starEach (e :: es) X.env = (false, eval e X.env) :: starEach es X.env) : XcL X (e :: es) (t :: ts) (tCons (tC (xcV X.K t)) r)
theorem XcL.pa {X : Cx} {es : List Expr} {ts : List String} {r : TA} (h : XcL X es ts r) : PA X es r := by
  induction h with
  | nil => exact pa_nil
  | cons h _ hs ih => exact pa_cons h ih hs
theorem XcL.run {X : Cx} {es : List Expr} {ts : List String} {r : TA} (h : XcL X es ts r) : ∀ {σ : L2.St} {H : Hp} {Q : List V → Hp → Prop}, Q (ts.map (xcV X.K)) H → r σ H Q := by
  induction h with
  | nil => exact fun q => q
  | cons h _ hs ih => exact fun q => ih (Q := fun xs H2 => _) q
theorem xc_all (K : Frag) : ∀ ts : List String, Paired ClsV (ts.map (xcV K)) (ts.map (xcU K))
  | [] => .nil
  | t :: ts => .cons (xc_cls K t) (xc_all K ts)
section
variable {X : Cx} {W : WX} {ow : Ow} {a da : Addr} {oe : Obj} {pn : List (Addr × Obj)} {c t : String} {es all fl ts : List String} {fs : List (String × D)} {i tk : Nat} {e0 b : Expr} {els : List Expr} {r : TA} {p tp pos : Pos} {x : Str}
theorem x_xis1 (E : ErsOk X.K es all fl) (hc : c ∈ es) (hz : Zc (.ref (ca X.K c)) (some da) oe) (hv : ∃ vs, oe.data = .fields vs) (hx : x = "isinstance") (hg : Gl (X.suite a ((a, oe) :: pn)) x) (hm : X.mg x = none) (he : PE (X.suite a ((a, oe) :: pn)) e0 (tVar i)) (hb : PE (X.suite a ((a, oe) :: pn)) b (tC (xcV X.K t)))
    (hs : starEach [e0, b] X.env = (false, eval e0 X.env) :: starEach [b] X.env := by rfl) (hs2 : starEach [b] X.env = [(false, eval b X.env)] := by rfl) (hpl : (backTo pos (starEach [b] X.env)).any (·.1) = false := by rfl) (hx0 : ow.x = some ⟨i, a, da, fs⟩ := by rfl) :
    PE (X.suite a ((a, oe) :: pn)) (.Call (.Name x p) [e0, b] [] pos) (tE X.K W ow (xis es all c [t])) := by
  subst hx
  refine PE.of (pe_callB (call_xis1 (E c hc) hz hv) hg hm (by decide +kernel) (pa_cons he (pa_cons hb pa_nil hs2) hs) (by decide) (by decide) hs hpl) fun σ H Q ⟨A, H0, O, en, R, q⟩ => ?_
  obtain ⟨_, h2, _, fvs, h4, _⟩ := R.exq ⟨i, a, da, fs⟩ hx0
  have q' : Out (xis es all c [t] en) _ _ := q
  unfold xis at q'
  split at q'
  · rename_i hk
    have ht : t ∈ all := by
      rw [Bool.and_eq_true] at hk
      simpa using hk.2
    exact ⟨.ref a, h2, xcV X.K t, xcU X.K t, _, fvs, rfl, xc_cls _ _, h4, (E c hc).kt t ht, q' _ H (Same.refl H) rep_bl⟩
  · exact q'.elim
theorem x_xisT (E : ErsOk X.K es all fl) (hc : c ∈ es) (hz : Zc (.ref (ca X.K c)) (some da) oe) (hv : ∃ vs, oe.data = .fields vs) (hx : x = "isinstance") (hg : Gl (X.suite a ((a, oe) :: pn)) x) (hm : X.mg x = none) (he : PE (X.suite a ((a, oe) :: pn)) e0 (tVar i)) (hb : XcL (X.suite a ((a, oe) :: pn)) els ts r) (hz2 : ts.length ≤ 20)
    (hs : starEach [e0, .Tuple els tk tp] X.env = (false, eval e0 X.env) :: starEach [.Tuple els tk tp] X.env := by rfl) (hs2 : starEach [.Tuple els tk tp] X.env = [(false, eval (.Tuple els tk tp) X.env)] := by rfl) (hpl : (backTo pos (starEach [.Tuple els tk tp] X.env)).any (·.1) = false := by rfl) (hx0 : ow.x = some ⟨i, a, da, fs⟩ := by rfl) :
    PE (X.suite a ((a, oe) :: pn)) (.Call (.Name x p) [e0, .Tuple els tk tp] [] pos) (tE X.K W ow (xis es all c ts)) := by
  subst hx
  refine PE.of (pe_callB (call_xisT (E c hc) hz hv) hg hm (by decide +kernel) (pa_cons he (pa_cons (pe_tup hb.pa) pa_nil hs2) hs) (by decide) (by decide) hs hpl) fun σ H Q ⟨A, H0, O, en, R, q⟩ => ?_
  obtain ⟨_, h2, _, fvs, h4, _⟩ := R.exq ⟨i, a, da, fs⟩ hx0
  have q' : Out (xis es all c ts en) _ _ := q
  unfold xis at q'
  split at q'
  · rename_i hk
    have ht : ∀ t ∈ ts, t ∈ all := fun t h => by
      rw [Bool.and_eq_true] at hk
      simpa using List.all_eq_true.mp hk.2 t h
    refine ⟨.ref a, h2, hb.run ⟨by rw [List.length_map]; exact Nat.le_trans hz2 (by decide), fun p hp => ?_⟩⟩
    exact ⟨p, ts.map (xcV X.K), ts.map (xcU X.K), _, fvs, rfl, upd_same, xc_all _ _, (new_same hp) _ _ h4, kit_anyE (E c hc) ht, q' _ _ (new_same hp) rep_bl⟩
  · exact q'.elim
theorem x_xfld {f : String} (E : ErsOk X.K es all fl) (hc : c ∈ es) (hz : Zc (.ref (ca X.K c)) (some da) oe) (hv : ∃ vs, oe.data = .fields vs) (he : PE (X.suite a ((a, oe) :: pn)) e0 (tVar i))
    (hb : attributeBase e0 (Str.ofString f) X.env (eval e0 X.env) = eval e0 X.env := by rfl) (hx0 : ow.x = some ⟨i, a, da, fs⟩ := by rfl) : PE (X.suite a ((a, oe) :: pn)) (.Attribute e0 (Str.ofString f) pos) (tE X.K W ow (xfld es fl c f fs)) := by
  have Ec := E c hc
  by_cases hf : f ∈ fl
  · refine PE.of (pe_xf ⟨Ec.ga, Ec.gg, Ec.be, Ec.hd⟩ (Ec.fl f hf) hz hv he hb) fun σ H Q ⟨A, H0, O, en, R, q⟩ => ?_
    obtain ⟨_, h2, _, fvs, h4, h5⟩ := R.exq ⟨i, a, da, fs⟩ hx0
    have q' : Out (xfld es fl c f fs en) _ _ := q
    unfold xfld at q'
    split at q'
    · have lk := h5.look (f := f)
      have h6 : ∀ o : Option D, fs.lookup f = o → _ := fun o e => e
      cases e : fs.lookup f with
      | none =>
        rw [e] at q'
        exact q'.elim
      | some d =>
        rw [e] at q'
        have lk2 : ∃ v, fvs.lookup (Str.ofString f) = some v ∧ Rep X.K (AO A O) H d v := by
          dsimp only at lk
          rw [e] at lk
          exact lk
        obtain ⟨v, e1, r1⟩ := lk2
        exact ⟨.ref a, h2, rfl, rfl, da, fvs, v, rfl, h4, e1, q' v H (Same.refl H) r1⟩
    · exact q'.elim
  · refine ⟨fun pins s σ H Q I ⟨A, H0, O, en, R, q⟩ => ?_⟩
    have q' : Out (xfld es fl c f fs en) _ _ := q
    unfold xfld at q'
    rw [if_neg (by simp [hf])] at q'
    exact q'.elim
end
theorem xc_glob {X : Cx} {t : String} {pos : Pos} (h : t ≠ "ValueError") (hg : Gl X (Str.ofString t)) (hm : X.mg (Str.ofString t) = some (.ref (ca X.K t))) (hd : (Str.ofString t == ("__debug__" : Str)) = false := by decide) : PE X (.Name (Str.ofString t) pos) (tC (xcV X.K t)) := by
  unfold xcV
  rw [if_neg h]
  exact pe_glob hg hm rfl hd
theorem hv_ve : bootBuiltins "ValueError" = some (.type "ValueError") := by decide +kernel
theorem xc_ve {X : Cx} {pos : Pos} (hg : Gl X "ValueError") (hm : X.mg "ValueError" = none) : PE X (.Name "ValueError" pos) (tC (xcV X.K "ValueError")) := by
  unfold xcV
  rw [if_pos rfl]
  exact pe_bltn hg hm hv_ve rfl
/-! ### an error's __init__, by the head -/
section
variable {P : Program} {w : World} {K : Frag} {mg : Str → Option Value} {base : Heap} {nm qual self txt : Str} {params : Arguments} {body rest : List Stmt} {scope : Scope} {N ps : List Str} {k : Nat} {ar : Arg} {c : String} {ns : List String}
theorem err_ok (F : ErrF P K c nm qual params body scope ns) (g : mg (Str.ofString c) = some (.ref (ca K c))) (hmg : mg "super" = none) (htop : (P.main.scope.names.lookup ("super" : Str)).isSome = false) (hps : ps = self :: ns.map Str.ofString) (S : NdefX.NScope N ps ["__class__"] scope)
    (har : (params.posonlyargs ++ params.args).head? = some ar) (hself : ar.arg = self) (hsk : scope.names.lookup ("super" : Str) = some .globalImplicit) {p0 p1 p2 p3 p4 p5 : Pos} {j : Nat}
    (hbody : body = .Expr (.Call (.Attribute (.Call (.Name "super" p0) [] [] p1) "__init__" p2) [.Constant (.str txt) j p3] [] p4) p5 :: rest)
    (hbind : ∀ (kV doc pm : Value) (an : Option Addr) (cdv ct : Value) (cc : Addr) (us : List Value), us.length = ps.length → bindArgs (PySem.W.ksFn nm qual params body scope .none kV doc pm an cdv ct cc) ⟨us, []⟩ = pure (ps.zip us))
    {t : TS} (hb : ∀ (f cc cda : Addr) (A : Around) (outer : List PySem.Env) (s : Shared) (H : Hp) (E : XK), PSs (NdefX.ncx (L2N.CX P w) P w K mg base N ⟨nm, qual, params, body, scope, [("__class__", cc)], cda⟩ f A outer s H E) rest t)
    (ht : ∀ (a : Addr) (ws : List V) (H1 : Hp) (Dn : Ends) (σ : L2.St), σ[0]? = some (some (.ref a)) → (∀ i v, ws[i]? = some v → σ[i + 1]? = some (some v)) → ws.length = ns.length → H1 a = none →
      (∀ d H2 σ', H2 a = some (exo a (ca K c) (some d)) → H2 d = some (exd d ((ns.map Str.ofString).zip ws).reverse) → H1 d = none → d ≠ a → (∀ b, b ≠ a → b ≠ d → H2 b = H1 b) → Dn.nx σ' H2) → t Dn σ (upd H1 a (exo a (ca K c) none)))
    (hin : ∀ (L f cda cc : Addr), interactive (PySem.W.ksEnv qual scope L f (.ref cda) cc) = false)
    (hsw : ∀ (L f cda cc : Addr), swapsWith (.Call (.Attribute (.Call (.Name "super" p0) [] [] p1) "__init__" p2) [.Constant (.str txt) j p3] [] p4) none p5.line (PySem.W.ksEnv qual scope L f (.ref cda) cc) = pure false)
    {pl : Addr → Addr → Addr → Sem Bool} (hea : ∀ (L f cda cc : Addr), eval (.Call (.Attribute (.Call (.Name "super" p0) [] [] p1) "__init__" p2) [.Constant (.str txt) j p3] [] p4) (PySem.W.ksEnv qual scope L f (.ref cda) cc) = (do
      let ov ← attributeBase (.Call (.Name "super" p0) [] [] p1) "__init__" (PySem.W.ksEnv qual scope L f (.ref cda) cc) (eval (.Call (.Name "super" p0) [] [] p1) (PySem.W.ksEnv qual scope L f (.ref cda) cc))
      standAt p2.atName
      let (g, first) ← holding [ov] (getMethod ov "__init__" (pl f cda cc))
      callWith p4 g first (backTo p4 (starEach [.Constant (.str txt) j p3] (PySem.W.ksEnv qual scope L f (.ref cda) cc))) []))
    (hst : ∀ (L f cda cc : Addr), starEach [.Constant (.str txt) j p3] (PySem.W.ksEnv qual scope L f (.ref cda) cc) = [(false, eval (.Constant (.str txt) j p3) (PySem.W.ksEnv qual scope L f (.ref cda) cc))]) :
    ErrOk P w K mg base (k + 1) c ns := by
  obtain ⟨⟨cc, cda, fd, XI, kV, doc, pm, an, ct, hfd⟩, hini, htyp, hno⟩ := F
  refine ⟨_, fd, ps, g, XI.T, hini, htyp, ?_, ?_⟩
  · rw [hfd]
    exact .all (hbind kV doc pm an _ ct cc)
  · exact xinit_ok XI hps (by simp) S har hself hmg hsk htop hbody (hb _ cc cda) ht (fun L => hin L _ _ _) (fun L => hsw L _ _ _) (fun L => hea L _ _ _) (fun L => hst L _ _ _)
end
/-! ### the hook, the facts -/
section
open He
abbrev AlY : Type := AlT × Bool × List FnW
def obsY (more : Frag → Bool) (fa : List Fa) (fn xf : List DefD) (ts : List Tab) (K : Frag) : AlY := (obsT fa fn ts K, more K, xf.map fun d => fnWx K d.at_)
def valY (fn xf : List DefD) (ts : List Tab) (w : World) : AlY := (valT fn ts w, true, xf.map DefD.val)
def obsYG (n : Nat) (more : Frag → Bool) (fa : List Fa) (fn xf : List DefD) (ts : List Tab) (g : Addr → Option Obj) : AlY := obsY more fa fn xf ts (frG g (cStatics :: asD g n))
def hookY (n : Nat) (more : Frag → Bool) (fa : List Fa) (fn xf : List DefD) (ts : List Tab) : PySem.W.Hook where
  α := AlY
  obs := fun s => obsYG n more fa fn xf ts s.heap.get?
  val := fun w => valY fn xf ts w
  says := fun w h => ∃ K : PySem.W.Frag, K.In h ∧ SaysT fa fn ts w K ∧ more K = true ∧ (xf.map fun d => fnWx K d.at_) = xf.map DefD.val
  of := fun w s e => by
    have e1 : obsY more fa fn xf ts (frG s.heap.get? (cStatics :: asD s.heap.get? n)) = valY fn xf ts w := e
    unfold obsY valY at e1
    obtain ⟨e2, e3⟩ := Prod.mk.inj e1
    obtain ⟨e4, e5⟩ := Prod.mk.inj e3
    exact ⟨_, frG_in, e2, e4, e5⟩
  keeps := fun _ _ _ ⟨K, hK, c, m⟩ k => ⟨K, PySem.W.Frag.In.keeps hK k, c, m⟩
theorem obsYG_eq {n : Nat} {more : Frag → Bool} {fa : List Fa} {fn xf : List DefD} {ts : List Tab} {g : Addr → Option Obj} {s : Shared} (h : ∀ a, g a = s.heap.get? a) : obsYG n more fa fn xf ts g = (hookY n more fa fn xf ts).obs s := by
  have e : g = s.heap.get? := funext h
  rw [e] <;> rfl
end
structure FactsY (fa : List Fa) (fn xf : List DefD) (ts : List Tab) (ms : List (Frag → Bool)) (file : Str) (P : Program) (w : World) (K : Frag) (mg : Str → Option Value) : Prop extends Facts fa fn ts ms w K mg where
  x : (xf.map fun d => fnWx K d.at_) = xf.map DefD.val
  pf : ((P.main.file : Str) == file) = true
  ps : (P.main.scope.names.lookup ("super" : Str)).isSome = false
section
variable {fa : List Fa} {fn xf : List DefD} {ts : List Tab} {ms : List (Frag → Bool)} {file : Str} {P : Program} {w : World} {K : Frag} {mg : Str → Option Value}
theorem FactsY.err (Y : FactsY fa fn xf ts ms file P w K mg) (i j : Nat) {d : DefD} {c : String} {fs : List String} (h : xf[i]? = some d := by rfl) (hat : d.at_ = (Str.ofString c, some ("__init__" : Str)) := by rfl) (hm : ms[j]? = some (errB file c d.qual fs) := by rfl) : ErrF P K c d.name d.qual d.params d.body d.scope fs := by
  refine err_f hat Y.pf ?_ (Y.toFacts.more j hm)
  have e2 : (xf.map fun d => fnWx K d.at_)[i]? = (xf.map DefD.val)[i]? := by rw [Y.x]
  rw [List.getElem?_map, List.getElem?_map, h] at e2
  exact Option.some.inj e2
end
end Py
/-! A tuple so many times. -/
namespace Py
open PySem L2 PySem.Spec PyProof.Rows
theorem tmul_same (l : Addr) (items : Array Value) (n : Nat) (dd : Option Addr) (sl : Array (Option Value)) (x : Int) (u : Tok) (c0 : (decide (x < -(2 ^ 63)) || decide (x ≥ 2 ^ 63)) = false) (c1 : (items.isEmpty || x == 1) = true) :
    Meets (Builtin.«tuple.__mul__» ⟨[.ref l, .int x u], []⟩) (fun _ R s => s.heap.get? l = some { cls := .type "tuple", dict := dd, data := .seq items n, slots := sl } ∧ R (.ok (.ret (Value.ref l))) s) :=
  .of_wp fun prog w A R s h => by
    obtain ⟨hp, g, d, tk, os⟩ := s
    obtain ⟨hl, h⟩ := h
    have f1 := AutoSeq1.idx_int
    wp_walk using wpAny_loadPart' hl
    refine wpAny_ite_false (decide_eq_false (by rw [c0]; exact Bool.false_ne_true)) ?_
    wp_walk using wpAny_loadPart' hl
    exact ⟨_, rfl, h⟩
theorem tmul_none (l : Addr) (items : Array Value) (n : Nat) (dd : Option Addr) (sl : Array (Option Value)) (x : Int) (u : Tok) (c0 : (decide (x < -(2 ^ 63)) || decide (x ≥ 2 ^ 63)) = false) (c1 : (items.isEmpty || x == 1) = false) (c2 : (decide (x ≤ 0) || items.isEmpty) = true) :
    Meets (Builtin.«tuple.__mul__» ⟨[.ref l, .int x u], []⟩) (fun _ R s => s.heap.get? l = some { cls := .type "tuple", dict := dd, data := .seq items n, slots := sl } ∧ R (.ok (.ret (Value.ref s.heap.objs.size))) { s with heap := s.heap.push { cls := .type "tuple", data := .seq #[] } }) :=
  .of_wp fun prog w A R s h => by
    obtain ⟨hp, g, d, tk, os⟩ := s
    obtain ⟨hl, h⟩ := h
    have f1 := AutoSeq1.idx_int
    wp_walk using wpAny_loadPart' hl
    refine wpAny_ite_false (decide_eq_false (by rw [c0]; exact Bool.false_ne_true)) ?_
    wp_walk using wpAny_loadPart' hl
    exact ⟨_, rfl, h⟩
section
variable {X : Cx}
theorem y_trep : OpR X (binaryOp .Mult) (r2 X.K otrep) := by
  intro pins s σ H x y v u Q I rx ry h
  obtain ⟨A, d1, d2, d, h1, h2, hA, e, q⟩ := h
  cases d1 with
  | tup xs =>
    cases d2 with
    | int k =>
      simp only [otrep] at e
      split at e
      · rename_i hk
        cases e
        have hy : y = .int k := rep_int h2
        subst hy
        obtain ⟨l, vs, rfl, hT, r⟩ := (by simpa only [RepW, Rep] using h1 : ∃ a vs, x = .ref a ∧ SqT X.K H a vs ∧ RepL X.K A H xs vs)
        have hlen := r.length
        by_cases hgen : vs ≠ [] ∧ 2 ≤ k
        · refine op_repT pins s σ H _ _ v u Q I rx ry ⟨l, k, vs, rfl, rfl, hT, hgen.1, hgen.2, by omega, by omega, fun p hp => q _ _ (new_same hp) (new_tup (r.flat k.toNat) hp)⟩
        · cases rx
          obtain ⟨t, rfl⟩ := ry
          obtain ⟨its, rv, ⟨⟨cls, dd, data, sl⟩, ho, hc, n, hd⟩, hs⟩ := I.tuple hT
          simp only at hc hd
          subst hc hd
          have hl2 : its.length = vs.length := rv.length.symm
          have c0 : (decide (k < -(2 ^ 63)) || decide (k ≥ 2 ^ 63)) = false := by
            rw [decide_eq_false (by omega), decide_eq_false (by omega)] <;> rfl
          have road : ∀ {Q' : Value → Shared → Prop}, wpAny (model X.prog X.w) X.A (PySem.call (.builtin "tuple.__mul__") [.ref l, .int k t]) Q' X.xe s → wpAny (model X.prog X.w) X.A (PySem.call (.builtin "tuple.__mul__") [.ref l, .int k t]) Q' X.xe s := fun z => z
          by_cases hsame : vs = [] ∨ k = 1
          · have c1 : (its.toArray.isEmpty || k == 1) = true := by
              rcases hsame with z | z
              · rw [z] at hl2
                have : its = [] := List.eq_nil_of_length_eq_zero hl2
                subst this
                rfl
              · subst z
                simp
            have hres : (List.replicate k.toNat xs).flatten = xs := by
              rcases hsame with z | z
              · subst z
                have : xs = [] := by
                  simp only [List.length_nil] at hlen
                  exact List.eq_nil_of_length_eq_zero hlen
                subst this
                simp
              · subst z
                simp
            refine wpAny_binaryOp_repeat_ref (T := "tuple") (U := "int") (by decide) ⟨_, ho, rfl⟩ (fun s' => typeIs_int s' k t) noFill_tuple_mul F.fills_int_mul F.slot_int_rmul repeat_tuple F.slot_int_index.lookup
              (call_meets F.slot_int_rmul (typeIs_int s k t) F.entry_int_rmul (F.args_int_rmul_2 _ _) (int_rmul_tuple k t l its.toArray n dd sl) ⟨ho, rfl, ⟨_, ho, rfl⟩, ?_⟩)
            refine call_meets F.slot_tuple_mul ⟨_, ho, rfl⟩ F.entry_tuple_mul (F.args_tuple_mul_2 _ _) (tmul_same l its.toArray n dd sl k t c0 c1) ⟨ho, ?_⟩
            refine ⟨.ref l, H, I, rfl, q _ H (Same.refl H) ?_⟩
            rw [hres]
            simp only [Rep]
            exact ⟨l, vs, rfl, hT, r⟩
          · have hk0 : k ≤ 0 := by
              have a1 : vs ≠ [] := fun z => hsame (.inl z)
              have a2 : k ≠ 1 := fun z => hsame (.inr z)
              have a3 : ¬ 2 ≤ k := fun z => hgen ⟨a1, z⟩
              omega
            have c1 : (its.toArray.isEmpty || k == 1) = false := by
              have a1 : its ≠ [] := fun z => by
                subst z
                exact hsame (.inl (List.eq_nil_of_length_eq_zero hl2.symm))
              have a2 : (k == 1) = false := beq_eq_false_iff_ne.mpr fun z => hsame (.inr z)
              rw [a2, Bool.or_false]
              cases its with
              | nil => exact absurd rfl a1
              | cons a b => rfl
            have c2 : (decide (k ≤ 0) || its.toArray.isEmpty) = true := by
              rw [decide_eq_true hk0]
              rfl
            have hres : (List.replicate k.toNat xs).flatten = [] := by
              rw [show k.toNat = 0 by omega]
              simp
            refine wpAny_binaryOp_repeat_ref (T := "tuple") (U := "int") (by decide) ⟨_, ho, rfl⟩ (fun s' => typeIs_int s' k t) noFill_tuple_mul F.fills_int_mul F.slot_int_rmul repeat_tuple F.slot_int_index.lookup
              (call_meets F.slot_int_rmul (typeIs_int s k t) F.entry_int_rmul (F.args_int_rmul_2 _ _) (int_rmul_tuple k t l its.toArray n dd sl) ⟨ho, rfl, ⟨_, ho, rfl⟩, ?_⟩)
            refine call_meets F.slot_tuple_mul ⟨_, ho, rfl⟩ F.entry_tuple_mul (F.args_tuple_mul_2 _ _) (tmul_none l its.toArray n dd sl k t c0 c1 c2) ⟨ho, ?_⟩
            have np : H s.heap.objs.size = none := I.hok.fresh (Nat.le_refl _)
            refine ⟨.ref s.heap.objs.size, _, I.laid (t' := s.toks) (o := .tup []) (fun b ob z => Heap.get?_push_of_some _ z) (Nat.le_refl _) ?_, rfl, q _ _ (new_same np) ?_⟩
            · exact ⟨by simp, [], .nil, IsTup.new _ _⟩
            · rw [hres]
              exact new_tup (by simp [RepL]) np
      · cases e
    | _ => cases e
  | _ => cases e
end
theorem n_trep : NoEx2 otrep := fun x y c fs => by
  cases x <;> cases y <;> simp only [otrep] <;> first | (split <;> exact fun z => nomatch z) | exact fun z => nomatch z
end Py
/-! Lists and tuples walked within an except suite; except X as e for an own class X. -/
namespace Py
open PySem PySem.Spec PyProof.Rows L2 L2H HotX
section
variable {prog : Program} {w : World} {A : Around} {E : Value → Shared → Prop} {s : Shared}
theorem hot_ne {x1 it : Addr} {o o1 : Obj} {vs1 : Array Value} {u v : Value} (h1 : s.heap.get? x1 = some o1) (d1 : o1.data = .fields vs1) (c1 : vs1[2]? = some Value.none) (ho : s.heap.get? it = some o) (hd : o.data = .fields #[u, v]) : x1 ≠ it := fun e => by
  subst e
  rw [h1] at ho
  cases ho
  rw [d1] at hd
  cases hd
  simp at c1
theorem list_end_hot {it l x1 : Addr} {i : Nat} {items : Array Value} {Q : Option Value → Shared → Prop} (hot : HotAt A x1 s.heap) (hit : s.heap.IsListIter it l i) (hl : s.heap.IsList l items) (hx : items[i]? = none)
    (hQ : ∀ h', (∀ b o, b ≠ it → s.heap.get? b = some o → h'.get? b = some o) → Q none { s with heap := h' }) : wpAny (model prog w) A (pyNext (.ref it)) Q E s := by
  obtain ⟨o, ho, hc, hd⟩ := id hit
  obtain ⟨ol, hol, _, nl, hdl⟩ := hl
  obtain ⟨hh, o1, vs1, h1, d1, c1⟩ := hot
  have hne : x1 ≠ it := hot_ne h1 d1 c1 ho hd
  unfold pyNext
  refine wpAny_bind (wpAny_attempt (wpAny_callSpecial?_slot (name := Str.ofString "__next__") hit.typeIs slot_listiter_next
    (wpAny_call_entry slot_listiter_next hit.typeIs entry_listiter_next ?_ (args_listiter_next _))))
  show wpAny _ _ (field (.ref it) 0 >>= _) _ _ s
  refine wpAny_bind (wpAny_field ho hd (x := .ref l) rfl ?_)
  show wpAny _ _ (if (Value.ref l == Value.none) = true then _ else _) _ _ s
  rw [if_neg (show ¬ ((Value.ref l == Value.none) = true) from Bool.false_ne_true)]
  show wpAny _ _ (field (.ref it) 1 >>= _) _ _ s
  refine wpAny_bind (wpAny_field ho hd (x := .int i 0) rfl ?_)
  show wpAny _ _ (seqItems? (.ref l) >>= _) _ _ s
  refine wpAny_bind (wpAny_seqItems hol hdl ?_)
  simp only [Int.toNat_natCast, hx]
  refine wpAny_bind (wpAny_rule (wpAny_bind (wpAny_setField ho hd (by simp) ?_)))
  show wpAny _ _ (newExc (.type "StopIteration") [] >>= _) _ _ _
  refine wpAny_bind ?_
  simp only [newExc, newTuple]
  refine wpAny_bind (wpAny_newObj_type ?_ (by size_fits))
  refine wpAny_bind (m := firstArgMember _ _) (wpAny_of_eq (a := Value.none) (by first | rfl | (simp only [firstArgMember]; rfl)) ?_)
  refine wpAny_newObj_type ?_ (by size_fits)
  have up : ∀ {f : Obj → Obj} {b : Addr} {u : Obj}, b ≠ it → s.heap.get? b = some u → (s.heap.update it f).get? b = some u := fun {f b u} hb e => by
    rw [Heap.get?_update_other _ _ fun z => hb z.symm]
    exact e
  have hx1 := fun {f : Obj → Obj} => up (f := f) hne h1
  refine raiseNew_hot ⟨hh, o1, vs1, Heap.get?_push_of_some _ (Heap.get?_push_of_some _ hx1), d1, c1⟩ (Nat.ne_of_lt (Heap.lt_size (Heap.get?_push_of_some _ hx1))) (Heap.get?_push_size _ rfl) rfl (by first | (simp; done) | (simp; omega) | (simp only [Array.size_append]; simp; omega)) ?_
  refine wpAny_bind (wpAny_isInstance (T := "StopIteration") (b := true) ⟨_, Heap.get?_update_self _ (Heap.get?_push_size _ rfl) rfl, rfl⟩ isSubtype_stop ?_)
  refine wpAny_pure (hQ _ fun b u hb e => ?_)
  rw [Heap.get?_update_other _ _ (Nat.ne_of_gt (Heap.lt_size (Heap.get?_push_of_some _ (up hb e))))]
  exact Heap.get?_push_of_some _ (Heap.get?_push_of_some _ (up hb e))
theorem tuple_end_hot {it t x1 : Addr} {i : Nat} {items : Array Value} {Q : Option Value → Shared → Prop} (hot : HotAt A x1 s.heap) (hit : s.heap.IsTupleIter it t i) (hl : s.heap.IsTuple t items) (hx : items[i]? = none)
    (hQ : ∀ h', (∀ b o, b ≠ it → s.heap.get? b = some o → h'.get? b = some o) → Q none { s with heap := h' }) : wpAny (model prog w) A (pyNext (.ref it)) Q E s := by
  obtain ⟨o, ho, hc, hd⟩ := id hit
  obtain ⟨ol, hol, _, nl, hdl⟩ := hl
  obtain ⟨hh, o1, vs1, h1, d1, c1⟩ := hot
  have hne : x1 ≠ it := hot_ne h1 d1 c1 ho hd
  unfold pyNext
  refine wpAny_bind (wpAny_attempt (wpAny_callSpecial?_slot (name := Str.ofString "__next__") hit.typeIs F.slot_tuple_iterator_next
    (wpAny_call_entry F.slot_tuple_iterator_next hit.typeIs F.entry_tuple_iterator_next ?_ (F.args_tuple_iterator_next_1 _))))
  show wpAny _ _ (field (.ref it) 0 >>= _) _ _ s
  refine wpAny_bind (wpAny_field ho hd (x := .ref t) rfl ?_)
  show wpAny _ _ (if (Value.ref t == Value.none) = true then _ else _) _ _ s
  rw [if_neg (show ¬ ((Value.ref t == Value.none) = true) from Bool.false_ne_true)]
  show wpAny _ _ (field (.ref it) 1 >>= _) _ _ s
  refine wpAny_bind (wpAny_field ho hd (x := .int i 0) rfl ?_)
  show wpAny _ _ (seqItems? (.ref t) >>= _) _ _ s
  refine wpAny_bind (wpAny_seqItems hol hdl ?_)
  simp only [Int.toNat_natCast, hx]
  refine wpAny_bind (wpAny_rule (wpAny_bind (wpAny_setField ho hd (by simp) ?_)))
  show wpAny _ _ (newExc (.type "StopIteration") [] >>= _) _ _ _
  refine wpAny_bind ?_
  simp only [newExc, newTuple]
  refine wpAny_bind (wpAny_newObj_type ?_ (by size_fits))
  refine wpAny_bind (m := firstArgMember _ _) (wpAny_of_eq (a := Value.none) (by first | rfl | (simp only [firstArgMember]; rfl)) ?_)
  refine wpAny_newObj_type ?_ (by size_fits)
  have up : ∀ {f : Obj → Obj} {b : Addr} {u : Obj}, b ≠ it → s.heap.get? b = some u → (s.heap.update it f).get? b = some u := fun {f b u} hb e => by
    rw [Heap.get?_update_other _ _ fun z => hb z.symm]
    exact e
  have hx1 := fun {f : Obj → Obj} => up (f := f) hne h1
  refine raiseNew_hot ⟨hh, o1, vs1, Heap.get?_push_of_some _ (Heap.get?_push_of_some _ hx1), d1, c1⟩ (Nat.ne_of_lt (Heap.lt_size (Heap.get?_push_of_some _ hx1))) (Heap.get?_push_size _ rfl) rfl (by first | (simp; done) | (simp; omega) | (simp only [Array.size_append]; simp; omega)) ?_
  refine wpAny_bind (wpAny_isInstance (T := "StopIteration") (b := true) ⟨_, Heap.get?_update_self _ (Heap.get?_push_size _ rfl) rfl, rfl⟩ isSubtype_stop ?_)
  refine wpAny_pure (hQ _ fun b u hb e => ?_)
  rw [Heap.get?_update_other _ _ (Nat.ne_of_gt (Heap.lt_size (Heap.get?_push_of_some _ (up hb e))))]
  exact Heap.get?_push_of_some _ (Heap.get?_push_of_some _ (up hb e))
end
section
variable {P : Program} {w : World} {K : PySem.W.Frag} {tg : Expr}
theorem turn_listH (a it : Addr) : TurnH P w K tg (Itl K a) [it] it (fun i h => h.IsListIter it a i) where
  mem := by simp
  obj := (turn_list (P := P) (w := w) (K := K) (tg := tg) a it).obj
  keep := (turn_list (P := P) (w := w) (K := K) (tg := tg) a it).keep
  item := by
    intro X hP hw hK hc i pins s σ H E I hf st hg
    subst hP hw hK
    obtain ⟨xs, x, hq, hx⟩ := hg
    obtain ⟨its, rv, p, hz⟩ := I.list hq
    obtain ⟨u, hu, ru⟩ := rv.get hx
    obtain ⟨f0, f1, f2, f3, f4, f5⟩ := hf it (by simp)
    refine wpAny_pyNext_list_item st p.isList (x := u) (by simpa using hu) fun h' st' sb => ?_
    have I1 : Inv X pins σ H { s with heap := h' } := I.turned (t' := s.toks) (fun b o hb e => (sb.2 b hb).trans e) f0 f1 f3 f4 f5
    obtain ⟨o, e, c, d⟩ := id st'
    exact ⟨u, rfl, go_of (s := { s with heap := h' }) e c d (by decide) ⟨x, H, I1, ru, ⟨rfl, fun ys hy => by rw [I.list_inj hy hq]; exact hx⟩, st', fun b hb => (hf b hb).1⟩⟩
  done := by
    intro X hP hw hK hc i pins s σ H E I hf st hg
    subst hP hw hK
    obtain ⟨xs, hq, hx⟩ := hg
    obtain ⟨its, rv, p, hz⟩ := I.list hq
    obtain ⟨f0, f1, f2, f3, f4, f5⟩ := hf it (by simp)
    have hl := rv.length
    obtain ⟨x1, hot⟩ := hc.at I
    exact list_end_hot hot st p.isList (by simp; omega) fun h' eb => ⟨rfl, I.turned (t' := s.toks) (fun b o hb e => eb b o hb e) f0 f1 f3 f4 f5⟩
  self := (turn_list (P := P) (w := w) (K := K) (tg := tg) a it).self
theorem turn_tupleH (a it : Addr) : TurnH P w K tg (Itt K a) [it] it (fun i h => h.IsTupleIter it a i) where
  mem := by simp
  obj := (turn_tuple (P := P) (w := w) (K := K) (tg := tg) a it).obj
  keep := (turn_tuple (P := P) (w := w) (K := K) (tg := tg) a it).keep
  item := by
    intro X hP hw hK hc i pins s σ H E I hf st hg
    subst hP hw hK
    obtain ⟨xs, x, hq, hx⟩ := hg
    obtain ⟨its, rv, p, hz⟩ := I.tuple hq
    obtain ⟨u, hu, ru⟩ := rv.get hx
    obtain ⟨f0, f1, f2, f3, f4, f5⟩ := hf it (by simp)
    refine wpAny_pyNext_tuple_item st (show s.heap.IsTuple a its.toArray from p) (x := u) (by simpa using hu) fun h' st' sb => ?_
    have I1 : Inv X pins σ H { s with heap := h' } := I.turned (t' := s.toks) (fun b o hb e => (sb.2 b hb).trans e) f0 f1 f3 f4 f5
    obtain ⟨o, e, c, d⟩ := id st'
    exact ⟨u, rfl, go_of (s := { s with heap := h' }) e c d (by decide) ⟨x, H, I1, ru, ⟨rfl, fun ys hy => by rw [I.tuple_inj hy hq]; exact hx⟩, st', fun b hb => (hf b hb).1⟩⟩
  done := by
    intro X hP hw hK hc i pins s σ H E I hf st hg
    subst hP hw hK
    obtain ⟨xs, hq, hx⟩ := hg
    obtain ⟨its, rv, p, hz⟩ := I.tuple hq
    obtain ⟨f0, f1, f2, f3, f4, f5⟩ := hf it (by simp)
    have hl := rv.length
    obtain ⟨x1, hot⟩ := hc.at I
    exact tuple_end_hot hot st (show s.heap.IsTuple a its.toArray from p) (by simp; omega) fun h' eb => ⟨rfl, I.turned (t' := s.toks) (fun b o hb e => eb b o hb e) f0 f1 f3 f4 f5⟩
  self := (turn_tuple (P := P) (w := w) (K := K) (tg := tg) a it).self
end
section
variable {X : Cx} {W : WX} {ow : Ow} {tg a : Expr} {ma : EM}
theorem pi_eitherH {l : Expr} {tl : TE} (hl : PE X l tl) : PIH X tg l (fun σ H R => tl σ H fun x H1 => ∃ a, x = .ref a ∧ ((∃ xs, SqL X.K H1 a xs ∧ R (Itl X.K a) H1) ∨ ∃ xs, SqT X.K H1 a xs ∧ R (Itt X.K a) H1)) := by
  refine ⟨fun pins s σ H R I h => ?_⟩
  refine thn (hl.run pins s σ H _ I h) fun v s1 ⟨x, H1, I1, r1, q1⟩ => ?_
  obtain ⟨a, e, q⟩ := q1
  subst e
  cases r1
  have fin : ∀ b ∈ [s1.heap.objs.size], FpOk X pins H1 b := fun b hb => by
    have e : b = s1.heap.objs.size := by simpa using hb
    subst e
    exact I1.fpOk (Nat.le_refl _) (I1.hok.fresh (Nat.le_refl _))
  rcases q with ⟨xs, hq, q⟩ | ⟨xs, hq, q⟩
  · obtain ⟨its, rv, p, hz⟩ := I1.list hq
    refine wpAny_pyIter_list p.isList ?_
    exact ⟨s1.heap.objs.size, [s1.heap.objs.size], _, _, H1, rfl, I1.kept (t' := s1.toks) fun b o e => Heap.get?_push_of_some _ e, turn_listH a _, ⟨_, Heap.get?_push_size _ rfl, rfl, rfl⟩, fin, q⟩
  · obtain ⟨its, rv, p, hz⟩ := I1.tuple hq
    refine wpAny_pyIter_tuple (show s1.heap.IsTuple a its.toArray from p) ?_
    exact ⟨s1.heap.objs.size, [s1.heap.objs.size], _, _, H1, rfl, I1.kept (t' := s1.toks) fun b o e => Heap.get?_push_of_some _ e, turn_tupleH a _, ⟨_, Heap.get?_push_size _ rfl, rfl, rfl⟩, fin, q⟩
theorem i_seqH (ha : PE X a (tE X.K W ow ma)) : PIH X tg a (tI Mv X.K W ow (iseq ma)) :=
  pih_of (pi_eitherH ha) fun σ H R' ⟨A, H0, O, en, R, q⟩ => ⟨A, H0, O, en, R, (Out.bind q).good fun d q1 v H1 s1 r1 => by
    cases d with
    | lst xs =>
      obtain ⟨p, vs, rfl, n, h, r⟩ := (by simpa only [Rep] using r1 : ∃ a vs, v = .ref a ∧ ¬ AO A O a ∧ Rd H1 a (.lst vs) ∧ RepL X.K (AO A O) H1 xs vs)
      exact ⟨p, rfl, .inl ⟨vs, .inl h, q1 _ H1 s1 (itm_lst (fun A2 H2 m => ⟨m, (Rd.move m h n).1⟩) r)⟩⟩
    | tup xs =>
      obtain ⟨p, vs, rfl, h, r⟩ := (by simpa only [Rep] using r1 : ∃ a vs, v = .ref a ∧ SqT X.K H1 a vs ∧ RepL X.K (AO A O) H1 xs vs)
      exact ⟨p, rfl, .inr ⟨vs, h, q1 _ H1 s1 (itm_tup h r)⟩⟩
    | _ => exact q1.elim⟩
end
end Py
/-! Dict displays, list(range(..)), max and min of a list, starred items, extend. -/
namespace Py
open PySem PySem.Spec PyProof.Rows L2
theorem Ctx.inn {X : Cx} {W : WX} {k : Nat} (T : Ctx X W k) : OpR X (compareOp .In) (r2 X.K oin) := y_in (by have := T.hr.un; omega)
theorem Ctx.nin {X : Cx} {W : WX} {k : Nat} (T : Ctx X W k) : OpR X (compareOp .NotIn) (r2 X.K onotin) := y_notin (by have := T.hr.un; omega)
theorem Ctx.ix {X : Cx} {W : WX} {k : Nat} (T : Ctx X W k) : IxR X (r2 X.K oidx) := y_idx (by have := T.hr.un; omega)
theorem Ctx.st {X : Cx} {W : WX} {k : Nat} (T : Ctx X W k) : PSet X (rSetX X.K) := set_any (by have := T.hr.un; omega)
theorem CtxH.inn {X : Cx} {W : WX} {k : Nat} (T : CtxH X W k) : OpR X (compareOp .In) (r2 X.K oin) := y_in (by have := T.hr.un; omega)
theorem CtxH.nin {X : Cx} {W : WX} {k : Nat} (T : CtxH X W k) : OpR X (compareOp .NotIn) (r2 X.K onotin) := y_notin (by have := T.hr.un; omega)
theorem CtxH.ix {X : Cx} {W : WX} {k : Nat} (T : CtxH X W k) : IxR X (r2 X.K oidx) := y_idx (by have := T.hr.un; omega)
theorem CtxH.st {X : Cx} {W : WX} {k : Nat} (T : CtxH X W k) : PSet X (rSetX X.K) := set_any (by have := T.hr.un; omega)
/-! ### {} and {k: v} -/
/-! ### list(range(..)) -/
end Py
/-! max, min of a list; extend; ranges with a step. -/
/-! len(x) by an own __len__. -/
namespace Py
open PySem PySem.Spec PyProof.Rows L2
/-! ### methods, wherever the error goes -/
section
variable {X : Cx} {W : WX} {ow : Ow} {o e : Expr} {es : List Expr} {ma : EM} {am : AM} {pos apos : Pos} {k j n : Nat} {cls mn : String} {fm : List D → Res D}
def tMethS (C : Addr) (m : Str) (sp : Sp) (E : L2.St → XK) (ta : TE) (t : TA) : TE := fun σ H Q => ta σ H fun x H1 => ∃ a dx fs, x = .ref a ∧ H1 a = some (.ins C dx fs) ∧ fs.lookup m = none ∧ t σ H1 fun vs H2 => sp (.ref a :: vs) H2 Q (E σ)
theorem pe_methS {C f : Addr} {fd : FuncData} {ps : List Str} {m : Str} {sp : Sp} {CX : CXT} {E : L2.St → XK} {ta : TE} {t : TA} {pl : Sem Bool} (he : PE X o ta) (c : Cls X.K C) (hm : Meth X.K C m f) (F : FnOk X.prog X.w X.K X.mg X.base CX k f fd ps sp) (hr : Room k X.A) (hb : Binds X.K fd ps []) (hx : ∀ σ, PassesAt CX X σ (E σ)) (ha : PA X (e :: es) t)
    (hst : starEach (e :: es) X.env = (false, eval e X.env) :: starEach es X.env) (hpl : (backTo pos (starEach es X.env)).any (·.1) = false)
    (ht : eval (.Call (.Attribute o m apos) (e :: es) [] pos) X.env = (do
      let ov ← eval o X.env
      standAt apos.atName
      let (f, first) ← holding [ov] (getMethod ov m pl)
      callWith pos f first (backTo pos (starEach (e :: es) X.env)) (backToKw pos (keywordEach [] X.env)))) :
    PE X (.Call (.Attribute o m apos) (e :: es) [] pos) (tMethS C m sp E ta t) := by
  refine ⟨fun pins s σ H Q I h => ?_⟩
  refine PySem.W.methodCall_KW (pl := pl) (thn (he.run pins s σ H _ I h) fun u s1 ⟨x, H1, I1, rx, a, dx, fs, ex, ea, l, q⟩ => ?_) ht
  subst ex
  obtain rfl : u = Value.ref a := rx
  refine getmeth_ok I1 ea c hm l ?_
  refine PySem.W.callWith_K (first := [.ref a]) (h₀ := X.base) I.ok.mod.kin hm.kp (thn (ha.run pos pins s1 σ H1 _ I1 q) fun us s2 ⟨vs, H2, I2, r, q2⟩ => ⟨I2.kIn, ?_⟩) hst hpl
  exact run_fnS (us := .ref a :: us) (vs := .ref a :: vs) F hr hb (hx σ) I2 (.cons rfl r) q2
theorem x_methS {pl : Sem Bool} {m : Str} (hm : m = Str.ofString mn) (T : Ctx X W j) (C : MethOk X.prog X.w X.K X.mg X.base k cls mn n fm) (hk : k ≤ j) (ho : PE X o (tE X.K W ow ma)) (ha : PA X (e :: es) (aE X.K W ow am))
    (hst : starEach (e :: es) X.env = (false, eval e X.env) :: starEach es X.env := by rfl) (hpl : (backTo pos (starEach es X.env)).any (·.1) = false := by rfl)
    (ht : eval (.Call (.Attribute o m apos) (e :: es) [] pos) X.env = (do
      let ov ← eval o X.env
      standAt apos.atName
      let (f, first) ← holding [ov] (getMethod ov m pl)
      callWith pos f first (backTo pos (starEach (e :: es) X.env)) (backToKw pos (keywordEach [] X.env))) := by rfl) :
    PE X (.Call (.Attribute o m apos) (e :: es) [] pos) (tE X.K W ow (callM cls mn fm ma am)) := by
  obtain ⟨f, fd, ps, h1, h2, h3, h4, h5⟩ := C.ex
  subst hm
  refine PE.of (pe_methS (E := WE W) ho h1 h2 h4 (T.hr.mono hk) h3 (fun σ => L2N.passAt T.tk σ) ha hst hpl ht) fun σ H Q h => ?_
  obtain ⟨A, H0, O, en, R, q⟩ := h
  refine ⟨A, H0, O, en, R, (Out.bind q).good fun d q1 v H1 s1 r1 => ?_⟩
  cases d with
  | ins c' fs =>
    simp only at q1
    split at q1
    · rename_i hc
      obtain ⟨rfl, hl⟩ := hc
      obtain ⟨p, dx, fvs, rfl, na, q2, r2⟩ := (by simpa only [Rep] using r1 : ∃ a dx fvs, v = .ref a ∧ ¬ AO A O a ∧ H1 a = some (.ins (ca X.K c') dx fvs) ∧ RepF X.K (AO A O) H1 fs fvs)
      have lk := r2.look (f := mn)
      have hl2 : fs.lookup mn = none := Option.isNone_iff_eq_none.mp hl
      rw [hl2] at lk
      refine ⟨p, dx, fvs, rfl, q2, lk, A, H0, O, en, R.to s1, ((Out.bind q1).to s1).good fun ds q3 vs H2 s2 r3 => ?_⟩
      refine ⟨AO A O, .ins c' fs :: ds, ?_, ?_, ((R.to s1).to s2).there, q3.imp (fun d _ k v H3 s3 r3 => k v H3 ((s1.trans s2).trans s3) r3) fun c fs2 z da H3 fvs2 s3 q4 r4 => z da H3 fvs2 ((s1.trans s2).trans s3) q4 r4⟩
      · simp only [RepL]
        exact ⟨_, vs, rfl, Rep.move (Mv.same s2) _ _ r1, paired_rep r3⟩
      · cases e : fm (.ins c' fs :: ds) with
        | ok d => exact h5.ok _ d e
        | exc c fs => exact h5.ex _ c fs e
        | stuck =>
          rw [e] at q3
          exact q3.elim
    · exact q1.elim
  | _ => exact q1.elim
end
/-! ### statements that never go on -/
section
variable {fr : Bool} {X : Cx} {W : WX} {ow o1 oN oB : Ow} {st : Stmt} {u : SM}
def NoNx (u : SM) : Prop := ∀ e e', u e ≠ .ok (.next e')
theorem nn_ret {m : EM} : NoNx (ret m) := fun e e' h => by
  unfold ret at h
  cases q : m e <;> rw [q] at h <;> cases h
theorem c_stop (hn : NoNx u) (h : PS X st (tS3 fr X.K W ow o1 oB u)) : PS X st (tS3 fr X.K W ow oN oB u) :=
  PS.of h fun D σ H ⟨A, H0, O, en, R, q⟩ => ⟨A, H0, O, en, R, by
    cases e : u en with
    | ok f =>
      rw [e] at q
      cases f with
      | next e' => exact (hn en e' e).elim
      | ret d => exact q
      | brk e' => exact q
      | cnt e' => exact q
    | exc c fs => rw [e] at q; exact q
    | stuck => rw [e] at q; exact q⟩
end
end Py
namespace Py
abbrev CS : List String := ["Row"]
abbrev ES : List String := ["InvalidNumber", "InvalidWords", "InvalidReading", "InvalidMachine", "InvalidRow", "InvalidMarks", "InvalidKind", "InvalidPrimes", "InvalidText", "InvalidCommand", "Undefined", "NothingToDo", "NothingKept"]
abbrev EALL : List String := ["InvalidNumber", "InvalidWords", "InvalidReading", "InvalidMachine", "InvalidRow", "InvalidMarks", "InvalidKind", "InvalidPrimes", "InvalidText", "InvalidCommand", "Undefined", "NothingToDo", "NothingKept", "CarryError", "ValueError"]
abbrev EFL : List String := ["at", "command", "name", "part", "place", "text", "value", "what", "word"]
def tab_SIZES : List (String × Int) := [("zero", 0), ("ones", 0), ("not", 1), ("and", 2), ("or", 2), ("xor", 2), ("shift", 1), ("minus", 1), ("add", 2), ("sub", 2)]
def b_as_tuple : SM :=
  (seq (ite (tst (un (oisi CS [.lst, .tup]) (var 0))) (ret (un btuple (var 0))) skip)
  (ret (cst .non)))
def m_as_tuple : List D → Res D := fn 1 1 b_as_tuple
def b_is_integer : SM :=
  (ret (andE (un (oisi CS [.int]) (var 0)) (un onb (un (oisi CS [.bl]) (var 0)))))
def m_is_integer : List D → Res D := fn 1 1 b_is_integer
def b_is_below : SM :=
  (ret (andE (call m_is_integer (argC (var 0) argN)) (Py.chain ole olt (cst (.int 0)) (var 0) (var 1))))
def m_is_below : List D → Res D := fn 2 2 b_is_below
def b_are_values : SM :=
  (ret (un ball (lcE (iseq (var 0)) [2] (gnm 2) yes (call m_is_below (argC (var 2) (argC (var 1) argN))))))
def m_are_values : List D → Res D := fn 2 3 b_are_values
def b_is_count_deed : SM :=
  (seq (ite (tst (bin Py.one (un blen (var 0)) (cst (.int 4)))) (ret (cst (.bl false))) skip)
  (seq (asg (gtup [(gnm 2), (gnm 3), (gnm 4)]) (slc (var 0) (some (cst (.int 1))) none))
  (seq (ite (orT (notT (tst (call m_is_integer (argC (var 2) argN)))) (orT (tst (bin onotin (var 2) (tupE (argC (cst (.int 2)) (argC (cst (.int 3)) (argC (cst (.int 5)) argN)))))) (notT (tst (call m_is_below (argC (var 3) (argC (var 2) argN))))))) (ret (cst (.bl false))) skip)
  (ret (andE (un (oisi CS [.tup]) (var 4)) (andE (Py.chain ole ole (cst (.int 1)) (un blen (var 4)) (cst (.int 4))) (call m_are_values (argC (var 4) (argC (var 1) argN)))))))))
def m_is_count_deed : List D → Res D := fn 2 5 b_is_count_deed
def b_is_deed : SM :=
  (seq (ite (orT (notT (tst (un (oisi CS [.tup]) (var 0)))) (orT (notT (tst (var 0))) (notT (tst (un (oisi CS [.str]) (bin oidx (var 0) (cst (.int 0)))))))) (ret (cst (.bl false))) skip)
  (seq (ite (tst (bin oeq (bin oidx (var 0) (cst (.int 0))) (cst (.str "count")))) (ret (call m_is_count_deed (argC (var 0) (argC (var 1) argN)))) skip)
  (seq (ite (orT (tst (un (onothas tab_SIZES) (bin oidx (var 0) (cst (.int 0))))) (tst (bin Py.one (un blen (var 0)) (bin oadd (un (olook tab_SIZES) (bin oidx (var 0) (cst (.int 0)))) (cst (.int 1)))))) (ret (cst (.bl false))) skip)
  (ret (call m_are_values (argC (slc (var 0) (some (cst (.int 1))) none) (argC (var 1) argN)))))))
def m_is_deed : List D → Res D := fn 2 2 b_is_deed
def b_is_inputs : SM :=
  (ret (andE (call m_is_integer (argC (var 0) argN)) (Py.chain ole ole (cst (.int 1)) (var 0) (cst (.int 3)))))
def m_is_inputs : List D → Res D := fn 1 1 b_is_inputs
def b_Row_init : SM :=
  (seq (ite (notT (tst (call m_is_inputs (argC (var 1) argN)))) (rais "InvalidRow" ["part", "place"] (argC (cst (.str "inputs")) (argC (cst (.int 0)) argN))) skip)
  (seq (asg (gnm 4) (call m_as_tuple (argC (var 2) argN)))
  (seq (ite (tst (un oisN (var 4))) (rais "InvalidRow" ["part", "place"] (argC (cst (.str "deeds")) (argC (cst (.int 0)) argN))) skip)
  (seq (for_ (ienum (var 4)) (gtup [(gnm 5), (gnm 6)]) (ite (notT (tst (call m_is_deed (argC (var 6) (argC (bin oadd (var 1) (var 5)) argN))))) (rais "InvalidRow" ["part", "place"] (argC (cst (.str "deeds")) (argC (var 5) argN))) skip))
  (seq (ite (notT (tst (call m_is_below (argC (var 3) (argC (bin oadd (var 1) (un blen (var 4))) argN))))) (rais "InvalidRow" ["part", "place"] (argC (cst (.str "out")) (argC (cst (.int 0)) argN))) skip)
  (seq (setF 0 ["Row"] "inputs" (var 1))
  (seq (setF 0 ["Row"] "deeds" (var 4))
  (setF 0 ["Row"] "out" (var 3)))))))))
def m_Row : List D → Res D := made 4 7 "Row" b_Row_init
def b_is_number : SM :=
  (ret (andE (call m_is_integer (argC (var 0) argN)) (bin oge (var 0) (cst (.int 0)))))
def m_is_number : List D → Res D := fn 1 1 b_is_number
def b_is_word : SM :=
  (ret (andE (call m_is_number (argC (var 0) argN)) (bin ole (un bbits (var 0)) (var 1))))
def m_is_word : List D → Res D := fn 2 2 b_is_word
def b_are_words : SM :=
  (seq (asg (gnm 4) (call m_as_tuple (argC (var 0) argN)))
  (seq (ite (orT (tst (un oisN (var 4))) (notT (tst (Py.chain ole ole (var 2) (un blen (var 4)) (var 3))))) (ret (cst (.bl false))) skip)
  (ret (un ball (lcE (iseq (var 4)) [5] (gnm 5) yes (call m_is_word (argC (var 5) (argC (var 1) argN))))))))
def m_are_words : List D → Res D := fn 4 6 b_are_words
def b_counted_word : SM :=
  (seq (asg (gnm 4) (cst (.int 0)))
  (seq (asg (gnm 5) (cst (.int 0)))
  (seq (for_ (irng1 (var 0)) (gnm 6) (seq (ite (tst (bin oeq (var 5) (var 2))) (aug 4 oior (bin oshl (cst (.int 1)) (var 6))) skip)
  (asg (gnm 5) (bin omod (bin oadd (var 5) (un bsum (lcE (iseq (var 3)) [7] (gnm 7) yes (bin oand (bin oshr (var 7) (var 6)) (cst (.int 1)))))) (var 1)))))
  (ret (var 4)))))
def m_counted_word : List D → Res D := fn 4 8 b_counted_word
def b_deed_word : SM :=
  (seq (asg (gnm 3) (bin oidx (var 0) (cst (.int 0))))
  (seq (asg (gnm 4) (bin osub (bin oshl (cst (.int 1)) (var 1)) (cst (.int 1))))
  (seq (ite (tst (bin oeq (var 3) (cst (.str "count")))) (ret (call m_counted_word (argC (var 1) (argC (bin oidx (var 0) (cst (.int 1))) (argC (bin oidx (var 0) (cst (.int 2))) (argC (lcE (iseq (bin oidx (var 0) (cst (.int 3)))) [7] (gnm 7) yes (bin oidx (var 2) (var 7))) argN)))))) skip)
  (seq (ite (tst (bin oin (var 3) (tupE (argC (cst (.str "zero")) (argC (cst (.str "ones")) argN))))) (ret (ifE (tst (bin oeq (var 3) (cst (.str "ones")))) (var 4) (cst (.int 0)))) skip)
  (seq (asg (gnm 5) (bin oidx (var 2) (bin oidx (var 0) (cst (.int 1)))))
  (seq (asg (gnm 6) (bin oidx (var 2) (bin oidx (var 0) (un oneg (cst (.int 1))))))
  (seq (ite (tst (bin oeq (var 3) (cst (.str "not")))) (ret (bin osub (var 4) (var 5))) skip)
  (seq (ite (tst (bin oeq (var 3) (cst (.str "and")))) (ret (bin oand (var 5) (var 6))) skip)
  (seq (ite (tst (bin oeq (var 3) (cst (.str "or")))) (ret (bin oor (var 5) (var 6))) skip)
  (seq (ite (tst (bin oeq (var 3) (cst (.str "xor")))) (ret (bin oxor (var 5) (var 6))) skip)
  (seq (ite (tst (bin oeq (var 3) (cst (.str "sub")))) (ret (bin oand (bin osub (var 5) (var 6)) (var 4))) skip)
  (seq (ite (tst (bin oeq (var 3) (cst (.str "minus")))) (ret (bin oand (un oneg (var 5)) (var 4))) skip)
  (ret (bin oand (bin oadd (var 5) (var 6)) (var 4)))))))))))))))
def m_deed_word : List D → Res D := fn 3 8 b_deed_word
def b_Row_all_words : SM :=
  (seq (ite (notT (tst (call m_is_number (argC (var 1) argN)))) (rais "InvalidNumber" ["value"] (argC (var 1) argN)) skip)
  (seq (ite (notT (tst (call m_are_words (argC (var 2) (argC (var 1) (argC (un (oattr ["Row"] "inputs") (var 0)) (argC (un (oattr ["Row"] "inputs") (var 0)) argN))))))) (rais "InvalidWords" ["value"] (argC (var 2) argN)) skip)
  (seq (asg (gnm 3) (un blist (var 2)))
  (seq (for_ (iseq (un (oattr ["Row"] "deeds") (var 0))) (gnm 4) (app 3 (callI m_deed_word (argC (var 4) (argC (var 1) (argC (var 3) argN))))))
  (ret (un btuple (var 3)))))))
def m_Row_all_words : List D → Res D := fn 3 5 b_Row_all_words
def b_Row_write : SM :=
  (ret (bin oidx (callM "Row" "all_words" m_Row_all_words (var 0) (argC (var 1) (argC (var 2) argN))) (un (oattr ["Row"] "out") (var 0))))
def m_Row_write : List D → Res D := fn 3 3 b_Row_write
def m_law_alike : Nat → List D → Res D
  | 0 => fn 2 3 dead
  | k + 1 => fn 2 3 ((seq (ite (tst (un (oisi CS [.lst, .tup]) (var 1))) (seq (ite (orT (notT (tst (un (oisi CS [.lst, .tup]) (var 0)))) (tst (bin Py.one (un (oisi CS [.lst]) (var 0)) (un (oisi CS [.lst]) (var 1))))) (ret (cst (.bl false))) skip)
  (seq (ite (tst (bin Py.one (un blen (var 0)) (un blen (var 1)))) (ret (cst (.bl false))) skip)
  (seq (for_ (irng1 (un blen (var 1))) (gnm 2) (ite (notT (tst (call (m_law_alike k) (argC (bin oidx (var 0) (var 2)) (argC (bin oidx (var 1) (var 2)) argN))))) (ret (cst (.bl false))) skip))
  (ret (cst (.bl true)))))) skip)
  (seq (ite (tst (un oisN (var 1))) (ret (un oisN (var 0))) skip)
  (seq (ite (orT (tst (un (oisi CS [.bl]) (var 1))) (tst (un (oisi CS [.bl]) (var 0)))) (ret (andE (un (oisi CS [.bl]) (var 1)) (andE (un (oisi CS [.bl]) (var 0)) (bin oeq (var 0) (var 1))))) skip)
  (seq (ite (tst (un (oisi CS [.str]) (var 1))) (ret (andE (un (oisi CS [.str]) (var 0)) (bin oeq (var 0) (var 1)))) skip)
  (ret (andE (un (oisi CS [.int]) (var 0)) (bin oeq (var 0) (var 1)))))))))
def b__law_in_range : SM :=
  (ret (andE (un (oisi CS [.int]) (var 0)) (andE (un onb (un (oisi CS [.bl]) (var 0))) (Py.chain ole ole (var 1) (var 0) (var 2)))))
def m_law_in_range : List D → Res D := fn 3 3 b__law_in_range
def b__law_refused : SM :=
  (seq (tryE ES 5 (ite (tst (bin oeq (var 1) (cst (.int 0)))) (Py.drop (callM "Row" "all_words" m_Row_all_words (var 0) (argC (var 2) (argC (var 3) argN)))) (Py.drop (callM "Row" "write" m_Row_write (var 0) (argC (var 2) (argC (var 3) argN))))) fun c_e fs_e => (seq (ite (tst (xis ES EALL c_e ["InvalidMachine", "InvalidRow", "InvalidMarks", "InvalidKind", "InvalidPrimes", "InvalidText"])) (ret (cst (.bl false))) skip)
  (seq (ite (tst (xis ES EALL c_e ["InvalidCommand", "Undefined", "NothingToDo", "NothingKept", "InvalidReading"])) (ret (cst (.bl false))) skip)
  (seq (ite (orT (tst (bin Py.one (xis ES EALL c_e ["InvalidNumber"]) (var 4))) (tst (bin oeq (xis ES EALL c_e ["InvalidWords"]) (var 4)))) (ret (cst (.bl false))) skip)
  (seq (ite (notT (tst (xis ES EALL c_e ["ValueError"]))) (ret (cst (.bl false))) skip)
  (seq (ite (tst (var 4)) (ret (call (m_law_alike 12) (argC (xfld ES EFL c_e "value" fs_e) (argC (var 2) argN)))) skip)
  (ret (call (m_law_alike 12) (argC (xfld ES EFL c_e "value" fs_e) (argC (var 3) argN))))))))))
  (ret (cst (.bl false))))
def m_law_refused : List D → Res D := fn 5 6 b__law_refused
def b__law_calls_refused : SM :=
  (seq (asg (gnm 3) (un (oattr ["Row"] "inputs") (var 0)))
  (seq (asg (gnm 4) (bin olrep (lstE (argC (cst (.int 0)) argN)) (var 3)))
  (seq (asg (gnm 5) (bin omod (bin oidx (var 2) (cst (.int 5))) (var 3)))
  (seq (asg (gnm 6) (un blist (var 4)))
  (seq (setL 6 (var 5) (bin oidx (lstE (argC (un oneg (cst (.int 1))) (argC (bin oshl (cst (.int 1)) (var 1)) (argC (bin oadd (bin oshl (cst (.int 1)) (var 1)) (bin oidx (var 2) (cst (.int 3)))) (argC (cst (.bl true)) (argC (cst (.bl false)) (argC (cst .non) (argC (cst (.str "0")) (argC (tupE (argC (cst (.int 0)) argN)) (argC (lstE (argC (cst (.int 0)) argN)) (argC (un oneg (cst (.int 2))) argN))))))))))) (bin oidx (var 2) (cst (.int 1)))))
  (seq (ite (tst (bin oeq (bin oidx (var 2) (cst (.int 0))) (cst (.int 1)))) (asg (gnm 6) (bin oidx (lstE (argC (bin oadd (var 4) (lstE (argC (cst (.int 0)) argN))) (argC (un btuple (slc (var 4) (some (cst (.int 1))) none)) (argC (cst .non) (argC (cst (.int 0)) (argC (cst (.str "0")) (argC (tupE argN) (argC (bin olrep (lstE (argC (cst (.int 0)) argN)) (cst (.int 4))) (argC (tupE (argC (var 4) argN)) (argC (cst (.bl true)) (argC (un oneg (cst (.int 1))) argN))))))))))) (bin oidx (var 2) (cst (.int 1))))) skip)
  (seq (asg (gnm 7) (bin oidx (lstE (argC (un oneg (cst (.int 1))) (argC (cst (.bl true)) (argC (cst (.bl false)) (argC (cst .non) (argC (cst (.str "3")) (argC (tupE (argC (cst (.int 3)) argN)) (argC (lstE (argC (cst (.int 2)) argN)) (argC (un oneg (bin opow (cst (.int 10)) (cst (.int 30)))) (argC (cst (.str "")) (argC (tupE argN) argN))))))))))) (bin oidx (var 2) (cst (.int 6)))))
  (seq (for_ (irng1 (cst (.int 2))) (gnm 8) (seq (ite (notT (tst (call m_law_refused (argC (var 0) (argC (var 8) (argC (var 7) (argC (un btuple (var 4)) (argC (cst (.bl true)) argN)))))))) (ret (cst (.bl false))) skip)
  (seq (ite (notT (tst (call m_law_refused (argC (var 0) (argC (var 8) (argC (var 7) (argC (var 6) (argC (cst (.bl true)) argN)))))))) (ret (cst (.bl false))) skip)
  (ite (notT (tst (call m_law_refused (argC (var 0) (argC (var 8) (argC (var 1) (argC (var 6) (argC (cst (.bl false)) argN)))))))) (ret (cst (.bl false))) skip))))
  (seq (ite (notT (tst (call m_law_in_range (argC (callM "Row" "write" m_Row_write (var 0) (argC (var 1) (argC (un btuple (var 4)) argN))) (argC (cst (.int 0)) (argC (bin osub (bin oshl (cst (.int 1)) (var 1)) (cst (.int 1))) argN)))))) (ret (cst (.bl false))) skip)
  (ret (call (m_law_alike 12) (argC (slc (callM "Row" "all_words" m_Row_all_words (var 0) (argC (var 1) (argC (var 4) argN))) none (some (var 3))) (argC (un btuple (var 4)) argN)))))))))))))
def m_law_calls_refused : List D → Res D := fn 3 9 b__law_calls_refused
def b__law_cell : SM :=
  (seq (ite (tst (bin olt (var 1) (un blen (var 0)))) (ret (bin oidx (var 0) (var 1))) skip)
  (seq (ite (tst (bin ogt (un blen (var 0)) (cst (.int 0)))) (ret (bin oadd (bin omod (un bint (bin oidx (var 0) (bin omod (var 1) (un blen (var 0))))) (cst (.int 100003))) (bin omul (cst (.int 7919)) (var 1)))) skip)
  (ret (bin oadd (bin omul (cst (.int 7919)) (var 1)) (cst (.int 5))))))
def m_law_cell : List D → Res D := fn 2 2 b__law_cell
def b__law_deed : SM :=
  (seq (asg (gnm 2) (lstE (argC (cst (.str "zero")) (argC (cst (.str "ones")) (argC (cst (.str "not")) (argC (cst (.str "and")) (argC (cst (.str "or")) (argC (cst (.str "xor")) (argC (cst (.str "shift")) (argC (cst (.str "minus")) (argC (cst (.str "add")) (argC (cst (.str "sub")) argN))))))))))))
  (seq (asg (gnm 3) (bin omod (bin oidx (var 0) (cst (.int 1))) (var 1)))
  (seq (asg (gnm 4) (bin omod (bin oidx (var 0) (cst (.int 2))) (var 1)))
  (seq (ite (tst (bin oge (bin oidx (var 0) (cst (.int 0))) (cst (.int 10)))) (seq (asg (gnm 5) (bin oidx (lstE (argC (cst (.int 2)) (argC (cst (.int 3)) (argC (cst (.int 5)) argN)))) (bin oidx (var 0) (cst (.int 3)))))
  (seq (asg (gnm 6) (tupE (argC (var 3) (argC (var 4) (argC (var 3) (argC (bin omod (bin oidx (var 0) (cst (.int 4))) (var 1)) argN))))))
  (ret (tupE (argC (cst (.str "count")) (argC (var 5) (argC (bin omod (bin oidx (var 0) (cst (.int 5))) (var 5)) (argC (slc (var 6) none (some (bin oadd (cst (.int 1)) (bin oidx (var 0) (cst (.int 6)))))) argN)))))))) skip)
  (seq (ite (tst (bin olt (bin oidx (var 0) (cst (.int 0))) (cst (.int 2)))) (ret (tupE (argC (bin oidx (var 2) (bin oidx (var 0) (cst (.int 0)))) argN))) skip)
  (seq (ite (tst (bin oin (bin oidx (var 0) (cst (.int 0))) (lstE (argC (cst (.int 2)) (argC (cst (.int 6)) (argC (cst (.int 7)) argN)))))) (ret (tupE (argC (bin oidx (var 2) (bin oidx (var 0) (cst (.int 0)))) (argC (var 3) argN)))) skip)
  (ret (tupE (argC (bin oidx (var 2) (bin oidx (var 0) (cst (.int 0)))) (argC (var 3) (argC (var 4) argN)))))))))))
def m_law_deed : List D → Res D := fn 2 7 b__law_deed
def b__law_mixed : SM :=
  (seq (asg (gnm 2) (bin omod (un bint (bin oadd (bin oadd (bin omul (var 0) (cst (.int 48271))) (bin omul (var 1) (cst (.int 1103515245)))) (cst (.int 12345)))) (cst (.int 2147483647))))
  (seq (asg (gnm 3) (bin omod (un bint (bin oadd (bin omul (var 2) (var 2)) (cst (.int 69621)))) (cst (.int 2147483563))))
  (ret (bin ofdiv (bin omod (un bint (bin omul (var 3) (bin oadd (bin omod (var 3) (cst (.int 65521))) (cst (.int 3))))) (cst (.int 1000000007))) (cst (.int 8))))))
def m_law_mixed : List D → Res D := fn 2 4 b__law_mixed
def b__law_draws : SM :=
  (seq (asg (gnm 2) (lstE argN))
  (seq (asg (gnm 3) (var 0))
  (seq (for_ (irng1 (un blen (var 1))) (gnm 4) (ite (andT (tst (bin oge (var 0) (bin opow (cst (.int 10)) (cst (.int 18))))) (andT (tst (bin olt (var 4) (cst (.int 60)))) (tst (bin ogt (var 3) (cst (.int 0)))))) (seq (app 2 (bin omod (un bint (var 3)) (bin oidx (var 1) (var 4))))
  (asg (gnm 3) (bin ofdiv (var 3) (bin oidx (var 1) (var 4))))) (app 2 (bin omod (call m_law_mixed (argC (var 0) (argC (var 4) argN))) (bin oidx (var 1) (var 4))))))
  (ret (var 2)))))
def m_law_draws : List D → Res D := fn 2 5 b__law_draws
def b__law_all_in_range : SM :=
  (seq (for_ (iseq (var 0)) (gnm 3) (ite (notT (tst (call m_law_in_range (argC (var 3) (argC (var 1) (argC (var 2) argN)))))) (ret (cst (.bl false))) skip))
  (ret (cst (.bl true))))
def m_law_all_in_range : List D → Res D := fn 3 4 b__law_all_in_range
def b__law_is_deed : SM :=
  (seq (ite (orT (notT (tst (un (oisi CS [.tup]) (var 0)))) (orT (tst (bin oeq (un blen (var 0)) (cst (.int 0)))) (notT (tst (un (oisi CS [.str]) (bin oidx (var 0) (cst (.int 0)))))))) (ret (cst (.bl false))) skip)
  (seq (ite (tst (bin oeq (bin oidx (var 0) (cst (.int 0))) (cst (.str "count")))) (seq (ite (orT (tst (bin Py.one (un blen (var 0)) (cst (.int 4)))) (orT (notT (tst (call m_law_in_range (argC (bin oidx (var 0) (cst (.int 1))) (argC (cst (.int 2)) (argC (cst (.int 5)) argN)))))) (tst (bin oeq (bin oidx (var 0) (cst (.int 1))) (cst (.int 4)))))) (ret (cst (.bl false))) skip)
  (seq (ite (orT (notT (tst (call m_law_in_range (argC (bin oidx (var 0) (cst (.int 2))) (argC (cst (.int 0)) (argC (bin osub (bin oidx (var 0) (cst (.int 1))) (cst (.int 1))) argN)))))) (notT (tst (un (oisi CS [.tup]) (bin oidx (var 0) (cst (.int 3))))))) (ret (cst (.bl false))) skip)
  (ret (andE (Py.chain ole ole (cst (.int 1)) (un blen (bin oidx (var 0) (cst (.int 3)))) (cst (.int 4))) (call m_law_all_in_range (argC (bin oidx (var 0) (cst (.int 3))) (argC (cst (.int 0)) (argC (bin osub (var 1) (cst (.int 1))) argN)))))))) skip)
  (seq (ite (tst (bin oin (bin oidx (var 0) (cst (.int 0))) (lstE (argC (cst (.str "zero")) (argC (cst (.str "ones")) argN))))) (ret (bin oeq (un blen (var 0)) (cst (.int 1)))) skip)
  (seq (ite (tst (bin oin (bin oidx (var 0) (cst (.int 0))) (lstE (argC (cst (.str "not")) (argC (cst (.str "shift")) (argC (cst (.str "minus")) argN)))))) (ret (andE (bin oeq (un blen (var 0)) (cst (.int 2))) (call m_law_all_in_range (argC (slc (var 0) (some (cst (.int 1))) none) (argC (cst (.int 0)) (argC (bin osub (var 1) (cst (.int 1))) argN)))))) skip)
  (seq (ite (tst (bin oin (bin oidx (var 0) (cst (.int 0))) (lstE (argC (cst (.str "and")) (argC (cst (.str "or")) (argC (cst (.str "xor")) (argC (cst (.str "add")) (argC (cst (.str "sub")) argN)))))))) (ret (andE (bin oeq (un blen (var 0)) (cst (.int 3))) (call m_law_all_in_range (argC (slc (var 0) (some (cst (.int 1))) none) (argC (cst (.int 0)) (argC (bin osub (var 1) (cst (.int 1))) argN)))))) skip)
  (ret (cst (.bl false))))))))
def m_law_is_deed : List D → Res D := fn 2 2 b__law_is_deed
def b__law_alike_members : SM :=
  (seq (ite (tst (bin Py.one (un blen (var 0)) (un blen (var 1)))) (ret (cst (.bl false))) skip)
  (seq (for_ (irng1 (un blen (var 1))) (gnm 2) (ite (andT (tst (call m_law_is_deed (argC (bin oidx (var 1) (var 2)) (argC (bin oadd (cst (.int 3)) (var 2)) argN)))) (notT (tst (call (m_law_alike 12) (argC (bin oidx (var 0) (var 2)) (argC (bin oidx (var 1) (var 2)) argN)))))) (ret (cst (.bl false))) skip))
  (ret (cst (.bl true)))))
def m_law_alike_members : List D → Res D := fn 2 3 b__law_alike_members
def b__law_fault : SM :=
  (seq (ite (notT (tst (call m_law_in_range (argC (var 0) (argC (cst (.int 1)) (argC (cst (.int 3)) argN)))))) (ret (tupE (argC (cst (.str "inputs")) (argC (cst (.int 0)) argN)))) skip)
  (seq (ite (notT (tst (un (oisi CS [.lst, .tup]) (var 1)))) (ret (tupE (argC (cst (.str "deeds")) (argC (cst (.int 0)) argN)))) skip)
  (seq (for_ (irng1 (un blen (var 1))) (gnm 3) (ite (notT (tst (call m_law_is_deed (argC (bin oidx (var 1) (var 3)) (argC (bin oadd (var 0) (var 3)) argN))))) (ret (tupE (argC (cst (.str "deeds")) (argC (var 3) argN)))) skip))
  (seq (ite (notT (tst (call m_law_in_range (argC (var 2) (argC (cst (.int 0)) (argC (bin osub (bin oadd (var 0) (un blen (var 1))) (cst (.int 1))) argN)))))) (ret (tupE (argC (cst (.str "out")) (argC (cst (.int 0)) argN)))) skip)
  (ret (cst .non))))))
def m_law_fault : List D → Res D := fn 3 4 b__law_fault
def b__law_made_rightly : SM :=
  (seq (asg (gnm 3) (call m_law_fault (argC (var 0) (argC (var 1) (argC (var 2) argN)))))
  (seq (asg (gnm 4) (tupE argN))
  (seq (ite (tst (un (oisi CS [.lst, .tup]) (var 1))) (asg (gnm 4) (un btuple (var 1))) skip)
  (seq (tryE ES 6 (asg (gnm 5) (call m_Row (argC (var 0) (argC (var 1) (argC (var 2) argN))))) fun c_e fs_e => (seq (ite (andT (tst (un (oisi CS [.lst]) (var 1))) (notT (tst (call m_law_alike_members (argC (var 1) (argC (var 4) argN)))))) (ret (cst (.bl false))) skip)
  (seq (ite (orT (tst (un oisN (var 3))) (orT (notT (tst (xis ES EALL c_e ["InvalidRow"]))) (notT (tst (xis ES EALL c_e ["ValueError"]))))) (ret (cst (.bl false))) skip)
  (seq (ite (tst (xis ES EALL c_e ["InvalidNumber", "InvalidWords", "InvalidReading", "InvalidMachine", "InvalidMarks", "InvalidKind"])) (ret (cst (.bl false))) skip)
  (seq (ite (tst (xis ES EALL c_e ["InvalidPrimes", "InvalidText", "InvalidCommand", "Undefined", "NothingToDo", "NothingKept"])) (ret (cst (.bl false))) skip)
  (ret (andE (call (m_law_alike 12) (argC (xfld ES EFL c_e "part" fs_e) (argC (bin oidx (var 3) (cst (.int 0))) argN))) (call (m_law_alike 12) (argC (xfld ES EFL c_e "place" fs_e) (argC (bin oidx (var 3) (cst (.int 1))) argN))))))))))
  (seq (ite (orT (tst (un onotN (var 3))) (orT (notT (tst (un (oisi CS [(.cls "Row")]) (var 5)))) (notT (tst (call (m_law_alike 12) (argC (un btuple (var 1)) (argC (var 4) argN))))))) (ret (cst (.bl false))) skip)
  (ret (andE (call (m_law_alike 12) (argC (un (oattr ["Row"] "inputs") (var 5)) (argC (var 0) argN))) (andE (call (m_law_alike 12) (argC (un (oattr ["Row"] "deeds") (var 5)) (argC (var 4) argN))) (call (m_law_alike 12) (argC (un (oattr ["Row"] "out") (var 5)) (argC (var 2) argN)))))))))))
def m_law_made_rightly : List D → Res D := fn 3 7 b__law_made_rightly
def b__law_spoilt_number : SM :=
  (seq (asg (gnm 2) (bin oidx (lstE (argC (cst .non) (argC (call m_Row (argC (cst (.int 1)) (argC (lstE argN) (argC (cst (.int 0)) argN)))) (argC (lstE (argC (lstE argN) argN)) (argC (cst (.str "")) (argC (tupE (argC (cst .non) argN)) (argC (tupE (argC (lstE argN) argN)) argN))))))) (bin omod (bin oidx (var 1) (cst (.int 3))) (cst (.int 6)))))
  (ret (bin oidx (lstE (argC (un oneg (cst (.int 1))) (argC (var 0) (argC (bin oadd (var 0) (bin oidx (var 1) (cst (.int 3)))) (argC (cst (.bl true)) (argC (cst (.bl false)) (argC (var 2) (argC (cst (.str "0")) (argC (tupE (argC (cst (.int 0)) argN)) (argC (lstE (argC (cst (.int 0)) argN)) (argC (un oneg (bin opow (cst (.int 10)) (cst (.int 30)))) argN))))))))))) (bin oidx (var 1) (cst (.int 1))))))
def m_law_spoilt_number : List D → Res D := fn 2 3 b__law_spoilt_number
def b__law_spoilt_count : SM :=
  (seq (ite (tst (bin oeq (bin oidx (var 2) (cst (.int 4))) (cst (.int 0)))) (seq (asg (gnm 3) (bin oidx (lstE (argC (cst .non) (argC (lstE (argC (cst (.int 2)) argN)) (argC (call m_Row (argC (cst (.int 1)) (argC (lstE argN) (argC (cst (.int 0)) argN)))) (argC (tupE (argC (lstE argN) argN)) argN))))) (bin omod (bin oidx (var 2) (cst (.int 3))) (cst (.int 4)))))
  (ret (bin oadd (tupE (argC (cst (.str "count")) (argC (bin oidx (lstE (argC (cst (.int 4)) (argC (cst (.int 0)) (argC (cst (.int 1)) (argC (bin oadd (cst (.int 7)) (bin omod (bin oidx (var 2) (cst (.int 3))) (cst (.int 7)))) (argC (cst (.bl true)) (argC (un oneg (cst (.int 2))) (argC (var 3) (argC (cst (.str "2")) (argC (tupE (argC (cst (.int 2)) argN)) (argC (cst (.int 6)) argN))))))))))) (bin oidx (var 2) (cst (.int 1)))) argN))) (slc (var 0) (some (cst (.int 2))) none)))) skip)
  (seq (ite (tst (bin oeq (bin oidx (var 2) (cst (.int 4))) (cst (.int 1)))) (ret (bin oadd (slc (var 0) none (some (cst (.int 2)))) (tupE (argC (bin oidx (lstE (argC (bin oidx (var 0) (cst (.int 1))) (argC (un oneg (cst (.int 1))) (argC (cst (.bl true)) (argC (cst (.bl false)) (argC (cst .non) (argC (cst (.str "0")) (argC (tupE (argC (cst (.int 0)) argN)) (argC (bin oadd (bin oidx (var 0) (cst (.int 1))) (bin oidx (var 2) (cst (.int 3)))) (argC (lstE (argC (cst (.int 1)) argN)) (argC (un oneg (cst (.int 5))) argN))))))))))) (bin oidx (var 2) (cst (.int 1)))) (argC (bin oidx (var 0) (cst (.int 3))) argN))))) skip)
  (seq (ite (tst (bin oeq (bin oidx (var 2) (cst (.int 4))) (cst (.int 2)))) (seq (asg (gnm 4) (lstE (argC (un blist (bin oidx (var 0) (cst (.int 3)))) (argC (tupE argN) (argC (lstE argN) (argC (bin oidx (bin oidx (var 0) (cst (.int 3))) (cst (.int 0))) (argC (cst .non) (argC (bin oadd (bin oidx (var 0) (cst (.int 3))) (tupE (argC (cst (.int 0)) (argC (cst (.int 0)) (argC (cst (.int 0)) (argC (cst (.int 0)) argN)))))) (argC (cst (.str "0")) (argC (tupE (argC (bin oidx (var 0) (cst (.int 3))) argN)) (argC (cst (.bl true)) (argC (bin otrep (tupE (argC (cst (.int 0)) argN)) (cst (.int 5))) argN))))))))))))
  (ret (bin oadd (slc (var 0) none (some (cst (.int 3)))) (tupE (argC (bin oidx (var 4) (bin oidx (var 2) (cst (.int 1)))) argN))))) skip)
  (seq (asg (gnm 5) (bin omod (bin oidx (var 2) (cst (.int 2))) (un blen (bin oidx (var 0) (cst (.int 3))))))
  (ret (bin oadd (slc (var 0) none (some (cst (.int 3)))) (tupE (argC (bin oadd (bin oadd (slc (bin oidx (var 0) (cst (.int 3))) none (some (var 5))) (tupE (argC (call m_law_spoilt_number (argC (var 1) (argC (var 2) argN))) argN))) (slc (bin oidx (var 0) (cst (.int 3))) (some (bin oadd (var 5) (cst (.int 1)))) none)) argN))))))))
def m_law_spoilt_count : List D → Res D := fn 3 6 b__law_spoilt_count
def b__law_spoilt : SM :=
  (seq (ite (tst (bin oeq (bin oidx (var 2) (cst (.int 0))) (cst (.int 0)))) (seq (asg (gnm 3) (call m_Row (argC (cst (.int 1)) (argC (lstE argN) (argC (cst (.int 0)) argN)))))
  (seq (asg (gnm 4) (lstE (argC (un blist (var 0)) (argC (cst .non) (argC (cst (.int 3)) (argC (cst (.str "zero")) (argC (tupE argN) (argC (cst (.bl true)) (argC (bin oidx (var 0) (cst (.int 0))) (argC (tupE (argC (var 0) argN)) (argC (lstE (argC (cst (.str "ones")) argN)) (argC (tupE (argC (cst (.int 0)) argN)) (argC (tupE (argC (lstE (argC (cst (.int 0)) argN)) argN)) (argC (tupE (argC (cst (.int 0)) (argC (cst .non) argN))) (argC (var 3) (argC (tupE (argC (var 3) argN)) argN))))))))))))))))
  (ret (bin oidx (bin oadd (var 4) (lstE (argC (tupE (argC (cst (.int 0)) (argC (tupE (argC (lstE argN) argN)) argN))) (argC (tupE (argC (lstE argN) argN)) (argC (lstE (argC (lstE argN) argN)) (argC (tupE (argC (cst .non) argN)) (argC (tupE (argC (cst (.str "count")) argN)) (argC (un oneg (cst (.int 1))) argN)))))))) (bin omod (bin oidx (var 2) (cst (.int 3))) (cst (.int 20))))))) skip)
  (seq (ite (tst (bin oeq (bin oidx (var 2) (cst (.int 0))) (cst (.int 1)))) (seq (asg (gnm 5) (lstE (argC (cst (.str "nand")) (argC (cst (.str "Not")) (argC (cst (.str "")) (argC (cst (.str "counts")) (argC (cst .non) (argC (cst (.int 0)) (argC (cst (.str "and ")) (argC (tupE (argC (cst (.str "not")) argN)) (argC (cst (.bl true)) (argC (cst (.str "value")) (argC (lstE (argC (cst (.str "not")) argN)) (argC (lstE argN) (argC (call m_Row (argC (cst (.int 1)) (argC (lstE argN) (argC (cst (.int 0)) argN)))) (argC (lstE (argC (lstE argN) argN)) argN))))))))))))))))
  (ret (bin oadd (tupE (argC (bin oidx (var 5) (bin omod (bin oidx (var 2) (cst (.int 3))) (cst (.int 14)))) argN)) (slc (var 0) (some (cst (.int 1))) none)))) skip)
  (seq (ite (tst (bin oeq (bin oidx (var 2) (cst (.int 0))) (cst (.int 2)))) (ret (slc (var 0) none (some (bin osub (un blen (var 0)) (cst (.int 1)))))) skip)
  (seq (ite (tst (bin oeq (bin oidx (var 2) (cst (.int 0))) (cst (.int 3)))) (ret (bin oadd (var 0) (tupE (argC (cst (.int 0)) argN)))) skip)
  (seq (ite (tst (bin oeq (bin oidx (var 0) (cst (.int 0))) (cst (.str "count")))) (ret (call m_law_spoilt_count (argC (var 0) (argC (var 1) (argC (var 2) argN))))) skip)
  (seq (ite (tst (bin oeq (un blen (var 0)) (cst (.int 1)))) (ret (tupE (argC (cst (.str "not")) (argC (call m_law_spoilt_number (argC (var 1) (argC (var 2) argN))) argN)))) skip)
  (seq (asg (gnm 6) (bin oadd (cst (.int 1)) (bin omod (bin oidx (var 2) (cst (.int 2))) (bin osub (un blen (var 0)) (cst (.int 1))))))
  (ret (bin oadd (bin oadd (slc (var 0) none (some (var 6))) (tupE (argC (call m_law_spoilt_number (argC (var 1) (argC (var 2) argN))) argN))) (slc (var 0) (some (bin oadd (var 6) (cst (.int 1)))) none))))))))))
def m_law_spoilt : List D → Res D := fn 3 7 b__law_spoilt
def b__law_spoilt_deeds : SM :=
  (seq (ite (orT (tst (bin oeq (bin oidx (var 2) (cst (.int 7))) (cst (.int 0)))) (tst (bin oeq (un blen (var 1)) (cst (.int 0))))) (ret (bin oidx (lstE (argC (cst .non) (argC (cst (.int 3)) (argC (cst (.bl true)) (argC (cst (.str "ab")) (argC (call m_Row (argC (cst (.int 1)) (argC (lstE argN) (argC (cst (.int 0)) argN)))) (argC (un oneg (cst (.int 1))) (argC (cst (.str "")) (argC (bin opow (cst (.int 10)) (cst (.int 30))) (argC (cst (.bl false)) (argC (cst (.int 0)) argN))))))))))) (bin oidx (var 2) (cst (.int 1))))) skip)
  (seq (asg (gnm 3) (un blist (var 1)))
  (seq (asg (gnm 4) (lcE (irng1 (un blen (var 1))) [7] (gnm 7) (tst (bin oeq (bin oidx (bin oidx (var 1) (var 7)) (cst (.int 0))) (cst (.str "count")))) (var 7)))
  (seq (ite (andT (tst (bin ogt (bin oidx (var 2) (cst (.int 0))) (cst (.int 3)))) (tst (bin ogt (un blen (var 4)) (cst (.int 0))))) (seq (asg (gnm 5) (bin oidx (var 4) (bin omod (bin oidx (var 2) (cst (.int 6))) (un blen (var 4)))))
  (seq (setL 3 (var 5) (call m_law_spoilt_count (argC (bin oidx (var 1) (var 5)) (argC (bin oadd (var 0) (var 5)) (argC (var 2) argN)))))
  (ret (var 3)))) skip)
  (seq (for_ (irng1 (bin oadd (cst (.int 1)) (bin oidx (var 2) (cst (.int 8))))) (gnm 6) (seq (asg (gnm 5) (bin omod (bin oidx (var 2) (bin oadd (cst (.int 5)) (var 6))) (un blen (var 3))))
  (setL 3 (var 5) (call m_law_spoilt (argC (bin oidx (var 1) (var 5)) (argC (bin oadd (var 0) (var 5)) (argC (var 2) argN)))))))
  (ret (var 3)))))))
def m_law_spoilt_deeds : List D → Res D := fn 3 8 b__law_spoilt_deeds
def b__law_holds : SM :=
  (seq (asg (gnm 1) (call m_law_draws (argC (call m_law_cell (argC (var 0) (argC (cst (.int 0)) argN))) (argC (lstE (argC (cst (.int 3)) (argC (cst (.int 9)) (argC (cst (.int 11)) (argC (cst (.int 4)) (argC (cst (.int 4)) (argC (cst (.int 10)) (argC (cst (.int 65)) (argC (cst (.int 1000)) (argC (cst (.int 4)) (argC (cst (.int 10)) argN))))))))))) argN))))
  (seq (asg (gnm 2) (bin oadd (cst (.int 1)) (bin oidx (var 1) (cst (.int 0)))))
  (seq (asg (gnm 3) (lstE argN))
  (seq (for_ (irng1 (bin oidx (var 1) (cst (.int 1)))) (gnm 4) (app 3 (call m_law_deed (argC (call m_law_draws (argC (call m_law_cell (argC (var 0) (argC (bin oadd (cst (.int 3)) (var 4)) argN))) (argC (lstE (argC (cst (.int 14)) (argC (cst (.int 11)) (argC (cst (.int 11)) (argC (cst (.int 3)) (argC (cst (.int 11)) (argC (cst (.int 30)) (argC (cst (.int 4)) argN)))))))) argN))) (argC (bin oadd (var 2) (var 4)) argN)))))
  (seq (asg (gnm 5) (bin oadd (var 2) (un blen (var 3))))
  (seq (ite (notT (tst (call m_law_made_rightly (argC (var 2) (argC (un blist (var 3)) (argC (bin omod (bin oidx (var 1) (cst (.int 2))) (var 5)) argN)))))) (ret (cst (.bl false))) skip)
  (seq (asg (gnm 6) (call m_law_draws (argC (call m_law_cell (argC (var 0) (argC (cst (.int 1)) argN))) (argC (lstE (argC (cst (.int 8)) (argC (cst (.int 10)) (argC (cst (.int 4)) (argC (cst (.int 1000)) (argC (cst (.int 4)) (argC (cst (.int 8)) (argC (cst (.int 10)) (argC (cst (.int 10)) (argC (cst (.int 2)) argN)))))))))) argN))))
  (seq (asg (gnm 7) (var 2))
  (seq (asg (gnm 8) (un blist (var 3)))
  (seq (asg (gnm 9) (bin omod (bin oidx (var 1) (cst (.int 2))) (var 5)))
  (seq (asg (gnm 10) (bin oidx (lstE (argC (cst (.int 0)) (argC (cst (.int 4)) (argC (un oneg (cst (.int 1))) (argC (cst (.bl true)) (argC (cst .non) (argC (cst (.str "1")) (argC (tupE (argC (cst (.int 1)) argN)) (argC (bin opow (cst (.int 10)) (cst (.int 30))) (argC (cst (.bl false)) (argC (lstE (argC (cst (.int 2)) argN)) argN))))))))))) (bin oidx (var 1) (cst (.int 5)))))
  (seq (asg (gnm 11) (bin oidx (lstE (argC (un oneg (cst (.int 1))) (argC (var 5) (argC (bin oadd (var 5) (bin oidx (var 1) (cst (.int 7)))) (argC (cst (.bl true)) (argC (cst (.bl false)) (argC (cst .non) (argC (cst (.str "0")) (argC (tupE (argC (cst (.int 0)) argN)) (argC (lstE (argC (cst (.int 0)) argN)) (argC (un oneg (bin opow (cst (.int 10)) (cst (.int 30)))) argN))))))))))) (bin oidx (var 1) (cst (.int 9)))))
  (seq (ite (tst (bin oeq (bin oidx (var 1) (cst (.int 3))) (cst (.int 0)))) (asg (gnm 7) (var 10)) skip)
  (seq (ite (tst (bin oeq (bin oidx (var 1) (cst (.int 8))) (cst (.int 0)))) (asg (gnm 9) (var 11)) skip)
  (seq (ite (tst (bin ogt (bin oidx (var 1) (cst (.int 4))) (cst (.int 0)))) (seq (asg (gnm 8) (call m_law_spoilt_deeds (argC (var 2) (argC (var 3) (argC (var 6) argN)))))
  (ite (andT (tst (bin oeq (bin oidx (var 1) (cst (.int 4))) (cst (.int 1)))) (tst (un (oisi CS [.lst]) (var 8)))) (asg (gnm 8) (un btuple (var 8))) skip)) skip)
  (seq (ite (orT (notT (tst (call m_law_made_rightly (argC (var 7) (argC (var 8) (argC (var 9) argN)))))) (notT (tst (call m_law_made_rightly (argC (var 10) (argC (un blist (var 3)) (argC (var 11) argN))))))) (ret (cst (.bl false))) skip)
  (seq (ite (notT (tst (call m_law_made_rightly (argC (var 10) (argC (call m_law_spoilt_deeds (argC (var 2) (argC (var 3) (argC (var 6) argN)))) (argC (var 11) argN)))))) (ret (cst (.bl false))) skip)
  (seq (asg (gnm 12) (bin oidx (lstE (argC (cst (.int 4)) (argC (cst (.int 6)) (argC (cst (.int 7)) (argC (cst (.int 8)) (argC (cst (.int 9)) (argC (cst (.int 10)) (argC (cst (.int 11)) (argC (cst (.int 12)) (argC (cst (.int 13)) (argC (cst (.int 1)) argN))))))))))) (bin omod (bin oidx (var 1) (cst (.int 7))) (cst (.int 10)))))
  (seq (ite (notT (tst (call m_law_made_rightly (argC (var 2) (argC (bin oadd (un blist (var 3)) (lstE (argC (tupE (argC (cst (.str "count")) (argC (var 12) (argC (bin omod (bin oidx (var 1) (cst (.int 7))) (var 12)) (argC (tupE (argC (cst (.int 0)) argN)) argN))))) argN))) (argC (bin osub (var 5) (cst (.int 1))) argN)))))) (ret (cst (.bl false))) skip)
  (seq (for_ (irng1 (cst (.int 6))) (gnm 13) (seq (asg (gnm 6) (call m_law_draws (argC (call m_law_cell (argC (var 0) (argC (bin oadd (cst (.int 12)) (var 13)) argN))) (argC (lstE (argC (cst (.int 8)) (argC (cst (.int 10)) (argC (cst (.int 4)) (argC (cst (.int 1000)) (argC (cst (.int 4)) (argC (cst (.int 8)) (argC (cst (.int 10)) (argC (cst (.int 10)) (argC (cst (.int 2)) argN)))))))))) argN))))
  (ite (notT (tst (call m_law_made_rightly (argC (var 2) (argC (call m_law_spoilt_deeds (argC (var 2) (argC (var 3) (argC (var 6) argN)))) (argC (bin osub (var 5) (cst (.int 1))) argN)))))) (ret (cst (.bl false))) skip)))
  (seq (ite (notT (tst (call m_law_made_rightly (argC (var 2) (argC (un btuple (var 3)) (argC (bin osub (var 5) (cst (.int 1))) argN)))))) (ret (cst (.bl false))) skip)
  (ret (call m_law_calls_refused (argC (call m_Row (argC (var 2) (argC (un blist (var 3)) (argC (bin osub (var 5) (cst (.int 1))) argN)))) (argC (bin oidx (var 1) (cst (.int 6))) (argC (call m_law_draws (argC (call m_law_cell (argC (var 0) (argC (cst (.int 2)) argN))) (argC (bin oadd (lstE (argC (cst (.int 2)) argN)) (bin olrep (lstE (argC (cst (.int 10)) argN)) (cst (.int 7)))) argN))) argN))))))))))))))))))))))))))
def m_law_holds : List D → Res D := fn 1 14 b__law_holds
def b_law : SM :=
  (thru (ret (call m_law_holds (argC (var 0) argN))))
def m_law : List D → Res D := fn 1 1 b_law
end Py
/-! How the mirrors are computed: equations, loops, comprehensions. -/
namespace Py.U
open PySem
/-! ### equations -/
@[simp] theorem cst_eq (d : D) (e : Env) : cst d e = .ok d := rfl
@[simp] theorem un_eq (f : D → Res D) (a : EM) (e : Env) : un f a e = (a e >>= f) := rfl
@[simp] theorem bin_eq (f : D → D → Res D) (a b : EM) (e : Env) : bin f a b e = (a e >>= fun x => b e >>= fun y => f x y) := rfl
@[simp] theorem argN_eq (e : Env) : argN e = .ok [] := rfl
@[simp] theorem argC_eq (a : EM) (r : AM) (e : Env) : argC a r e = (a e >>= fun x => r e >>= fun xs => .ok (x :: xs)) := rfl
@[simp] theorem call_eq (f : List D → Res D) (a : AM) (e : Env) : call f a e = (a e >>= f) := rfl
@[simp] theorem tst_eq (a : EM) (e : Env) : tst a e = (a e >>= truthy) := rfl
@[simp] theorem andT_eq (a b : TM) (e : Env) : andT a b e = (a e >>= fun x => if x then b e else .ok false) := rfl
@[simp] theorem orT_eq (a b : TM) (e : Env) : orT a b e = (a e >>= fun x => if x then .ok true else b e) := rfl
@[simp] theorem notT_eq (a : TM) (e : Env) : notT a e = (a e >>= fun x => .ok (!x)) := rfl
@[simp] theorem ifE_eq (t : TM) (a b : EM) (e : Env) : ifE t a b e = (t e >>= fun x => if x then a e else b e) := rfl
@[simp] theorem ite_eq (t : TM) (a b : SM) (e : Env) : ite t a b e = (t e >>= fun x => if x then a e else b e) := rfl
@[simp] theorem skip_eq (e : Env) : skip e = .ok (.next e) := rfl
@[simp] theorem ret_eq (m : EM) (e : Env) : ret m e = (m e >>= fun d => .ok (.ret d)) := rfl
@[simp] theorem asg_eq (g : GM) (m : EM) (e : Env) : asg g m e = (m e >>= fun d => lift (g d e) >>= fun e' => .ok (.next e')) := rfl
@[simp] theorem gnm_eq (i : Nat) (d : D) (e : Env) : gnm i d e = some (e.set i (some d)) := rfl
@[simp] theorem seq_eq (a b : SM) (e : Env) : seq a b e = (a e >>= fun f => match f with | .next e' => b e' | r => .ok r) := rfl
@[simp] theorem forB_eq (g : GM) (b : SM) (x : D) (e : Env) : forB g b x e = (lift (g x e) >>= b) := rfl
@[simp] theorem drop_eq (m : EM) (e : Env) : Py.drop m e = (m e >>= fun _ => .ok (.next e)) := rfl
@[simp] theorem tupE_eq (a : AM) (e : Env) : tupE a e = (a e >>= fun xs => chk xs.length (.tup xs)) := rfl
@[simp] theorem lstE_eq (a : AM) (e : Env) : lstE a e = (a e >>= fun xs => chk xs.length (.lst xs)) := rfl
@[simp] theorem andE_eq (a b : EM) (e : Env) : andE a b e = (a e >>= fun x => match x with | .bl true => b e | .bl false => .ok (.bl false) | _ => .stuck) := rfl
@[simp] theorem orE_eq (a b : EM) (e : Env) : orE a b e = (a e >>= fun x => match x with | .bl false => b e | .bl true => .ok (.bl true) | _ => .stuck) := rfl
@[simp] theorem chain_eq (f g : D → D → Res D) (a b c : EM) (e : Env) : chain f g a b c e = (a e >>= fun x => b e >>= fun y => f x y >>= fun z => match z with
  | .bl true => c e >>= fun u => g y u
  | .bl false => .ok (.bl false)
  | _ => .stuck) := rfl
@[simp] theorem iseq_eq (a : EM) (e : Env) : iseq a e = (a e >>= fun x => match x with | .lst xs => .ok xs | .tup xs => .ok xs | _ => .stuck) := rfl
@[simp] theorem for_eq (it : IM) (g : GM) (b : SM) (e : Env) : for_ it g b e = (it e >>= fun xs => forL (forB g b) xs e) := rfl
@[simp] theorem app_eq (i : Nat) (m : EM) (e : Env) : app i m e = (var i e >>= fun l => match l with
  | .lst xs => m e >>= fun d => if xs.length < SZ then .ok (.next (e.set i (some (.lst (xs ++ [d]))))) else .stuck
  | _ => .stuck) := rfl
@[simp] theorem aug_eq (i : Nat) (f : D → D → Res D) (m : EM) (e : Env) : aug i f m e = (var i e >>= fun x => m e >>= fun y => f x y >>= fun z => .ok (.next (e.set i (some z)))) := rfl
@[simp] theorem done_next (e : Env) : done (.ok (.next e)) = .ok .non := rfl
@[simp] theorem done_ret (d : D) : done (.ok (.ret d)) = .ok d := rfl
@[simp] theorem thru_eq (m : SM) (e : Env) : thru m e = noexc (m e) := rfl
@[simp] theorem brk_eq (e : Env) : brk e = .ok (.brk e) := rfl
@[simp] theorem cnt_eq (e : Env) : cnt e = .ok (.cnt e) := rfl
@[simp] theorem retN_eq (e : Env) : retN e = .ok (.ret .non) := rfl
@[simp] theorem chk_0 {d : D} : chk 0 d = .ok d := chk_ok (by decide)
@[simp] theorem chk_1 {d : D} : chk 1 d = .ok d := chk_ok (by decide)
@[simp] theorem chk_2 {d : D} : chk 2 d = .ok d := chk_ok (by decide)
@[simp] theorem chk_3 {d : D} : chk 3 d = .ok d := chk_ok (by decide)
@[simp] theorem chk_4 {d : D} : chk 4 d = .ok d := chk_ok (by decide)
@[simp] theorem chk_5 {d : D} : chk 5 d = .ok d := chk_ok (by decide)
@[simp] theorem chk_6 {d : D} : chk 6 d = .ok d := chk_ok (by decide)
@[simp] theorem chk_7 {d : D} : chk 7 d = .ok d := chk_ok (by decide)
@[simp] theorem chk_8 {d : D} : chk 8 d = .ok d := chk_ok (by decide)
@[simp] theorem chk_9 {d : D} : chk 9 d = .ok d := chk_ok (by decide)
@[simp] theorem chk_10 {d : D} : chk 10 d = .ok d := chk_ok (by decide)
@[simp] theorem chk_11 {d : D} : chk 11 d = .ok d := chk_ok (by decide)
@[simp] theorem chk_12 {d : D} : chk 12 d = .ok d := chk_ok (by decide)
@[simp] theorem chk_13 {d : D} : chk 13 d = .ok d := chk_ok (by decide)
@[simp] theorem chk_14 {d : D} : chk 14 d = .ok d := chk_ok (by decide)
@[simp] theorem chk_15 {d : D} : chk 15 d = .ok d := chk_ok (by decide)
@[simp] theorem chk_16 {d : D} : chk 16 d = .ok d := chk_ok (by decide)
@[simp] theorem chk_17 {d : D} : chk 17 d = .ok d := chk_ok (by decide)
@[simp] theorem chk_18 {d : D} : chk 18 d = .ok d := chk_ok (by decide)
@[simp] theorem chk_19 {d : D} : chk 19 d = .ok d := chk_ok (by decide)
@[simp] theorem chk_20 {d : D} : chk 20 d = .ok d := chk_ok (by decide)
@[simp] theorem chk_21 {d : D} : chk 21 d = .ok d := chk_ok (by decide)
@[simp] theorem chk_22 {d : D} : chk 22 d = .ok d := chk_ok (by decide)
@[simp] theorem chk_23 {d : D} : chk 23 d = .ok d := chk_ok (by decide)
/-! ### calls of defs -/
theorem fn1 {n : Nat} {b : SM} {x : D} : fn 1 n b [x] = done (b (some x :: List.replicate (n - 1) none)) := if_pos rfl
theorem fn2 {n : Nat} {b : SM} {x y : D} : fn 2 n b [x, y] = done (b (some x :: some y :: List.replicate (n - 2) none)) := if_pos rfl
theorem fn3 {n : Nat} {b : SM} {x y z : D} : fn 3 n b [x, y, z] = done (b (some x :: some y :: some z :: List.replicate (n - 3) none)) := if_pos rfl
theorem fn4 {n : Nat} {b : SM} {x y z u : D} : fn 4 n b [x, y, z, u] = done (b (some x :: some y :: some z :: some u :: List.replicate (n - 4) none)) := if_pos rfl
/-! ### operators on numbers -/
@[simp] theorem oadd_ii (i j : Int) : oadd (.int i) (.int j) = .ok (.int (i + j)) := rfl
@[simp] theorem osub_ii (i j : Int) : osub (.int i) (.int j) = .ok (.int (i - j)) := rfl
theorem omul_ii {i j : Int} (h : i.natAbs < B64 ∨ j.natAbs < B64) : omul (.int i) (.int j) = .ok (.int (i * j)) := if_pos h
theorem omul_l {i j : Int} (h : -18446744073709551616 < i) (h' : i < 18446744073709551616) : omul (.int i) (.int j) = .ok (.int (i * j)) := omul_ii (.inl (by unfold B64; omega))
theorem omul_r {i j : Int} (h : -18446744073709551616 < j) (h' : j < 18446744073709551616) : omul (.int i) (.int j) = .ok (.int (i * j)) := omul_ii (.inr (by unfold B64; omega))
theorem opow18 : opow (.int 10) (.int 18) = .ok (.int 1000000000000000000) := rfl
theorem omod_ii {i j : Int} (h : 0 < j) : omod (.int i) (.int j) = .ok (.int (i % j)) := if_pos h
theorem ofdiv_ii {i j : Int} (h : 0 < j ∧ j < 1073741824) : ofdiv (.int i) (.int j) = .ok (.int (i / j)) := if_pos h
theorem oshl_ii {i j : Int} (h : 0 ≤ j ∧ (Builtin.Int.intBits i : Int) + j ≤ 134217728) : oshl (.int i) (.int j) = .ok (.int (i * 2 ^ j.toNat)) := if_pos h
theorem oshr_ii {i j : Int} (h : 0 ≤ j) : oshr (.int i) (.int j) = .ok (.int (i / 2 ^ j.toNat)) := if_pos h
@[simp] theorem oand_ii (i j : Int) : oand (.int i) (.int j) = .ok (.int (Builtin.bitAnd i j)) := rfl
@[simp] theorem olt_ii (i j : Int) : olt (.int i) (.int j) = .ok (.bl (decide (i < j))) := rfl
@[simp] theorem ole_ii (i j : Int) : ole (.int i) (.int j) = .ok (.bl (decide (i ≤ j))) := rfl
@[simp] theorem ogt_ii (i j : Int) : ogt (.int i) (.int j) = .ok (.bl (decide (j < i))) := rfl
@[simp] theorem oge_ii (i j : Int) : oge (.int i) (.int j) = .ok (.bl (decide (j ≤ i))) := rfl
@[simp] theorem oneg_i (i : Int) : oneg (.int i) = .ok (.int (-i)) := rfl
@[simp] theorem oeq_ii (i j : Int) : oeq (.int i) (.int j) = .ok (.bl (i == j)) := rfl
@[simp] theorem one_ii (i j : Int) : Py.one (.int i) (.int j) = .ok (.bl (!(i == j))) := rfl
@[simp] theorem bint_i (i : Int) : bint (.int i) = .ok (.int i) := rfl
@[simp] theorem bint_b (b : Bool) : bint (.bl b) = .ok (.int (b2i b)) := rfl
@[simp] theorem truthy_b (b : Bool) : truthy (.bl b) = .ok b := rfl
@[simp] theorem truthy_i (i : Int) : truthy (.int i) = .ok (i != 0) := rfl
@[simp] theorem blen_l (xs : List D) : blen (.lst xs) = .ok (.int xs.length) := rfl
@[simp] theorem blen_t (xs : List D) : blen (.tup xs) = .ok (.int xs.length) := rfl
@[simp] theorem btuple_l (xs : List D) : btuple (.lst xs) = .ok (.tup xs) := rfl
@[simp] theorem btuple_t (xs : List D) : btuple (.tup xs) = .ok (.tup xs) := rfl
@[simp] theorem blist_l (xs : List D) : blist (.lst xs) = .ok (.lst xs) := rfl
@[simp] theorem blist_t (xs : List D) : blist (.tup xs) = .ok (.lst xs) := rfl
@[simp] theorem onb_b (b : Bool) : onb (.bl b) = .ok (.bl (!b)) := rfl
/-! ### subscripts -/
theorem ixN_nat {n k : Nat} (h : k < n) : L2.ixN n (k : Int) = some k := by
  unfold L2.ixN
  simp [h]
theorem atI_nat {α : Type} {xs : List α} {k : Nat} (h : k < xs.length) : L2.atI xs (k : Int) = some xs[k] := by
  unfold L2.atI
  rw [ixN_nat h]
  simp [h]
theorem oidx_l {xs : List D} {k : Nat} {d : D} (h : xs[k]? = some d) : oidx (.lst xs) (.int (k : Int)) = .ok d := by
  have hk : k < xs.length := by
    rcases Nat.lt_or_ge k xs.length with h1 | h1
    · exact h1
    · rw [List.getElem?_eq_none h1] at h
      cases h
  unfold oidx
  simp only [atI_nat hk, opt]
  rw [List.getElem?_eq_getElem hk] at h
  rw [Option.some.inj h]
theorem oidx_t {xs : List D} {k : Nat} {d : D} (h : xs[k]? = some d) : oidx (.tup xs) (.int (k : Int)) = .ok d := by
  have q : oidx (.tup xs) (.int (k : Int)) = oidx (.lst xs) (.int (k : Int)) := rfl
  rw [q]
  exact oidx_l h
/-! ### loops -/
theorem rng_map (n : Nat) : rngL 0 (n : Int) = (List.range n).map fun i => D.int ((i : Nat) : Int) := by
  unfold rngL
  rw [Int.sub_zero, Int.toNat_natCast]
  refine List.map_congr_left fun i _ => ?_
  rw [Int.zero_add]
theorem rng_lt {n : Nat} (h : n ≤ 1000) : n < B62 := Nat.lt_of_le_of_lt h (by decide)
theorem irng1_int {a : EM} {e : Env} {i : Int} (h : a e = .ok (.int i)) : irng1 a e = if i.natAbs < B62 then .ok (rngL 0 i) else .stuck := by
  unfold irng1
  simp only [h, bind_ok]
theorem irng1_nat {a : EM} {e : Env} {n : Nat} (h : a e = .ok (.int (n : Int))) (hn : n < B62) : irng1 a e = .ok ((List.range n).map fun i => .int ((i : Nat) : Int)) := by
  rw [← rng_map, irng1_int h]
  exact if_pos hn
theorem forL_inv {b : D → Env → Res Fl} (I : Nat → Env → Prop) : ∀ {xs : List D} {e : Env} (k : Nat), I k e → (∀ i e, (h : i < xs.length) → I (k + i) e → ∃ e', b xs[i] e = .ok (.next e') ∧ I (k + i + 1) e') → ∃ e', forL b xs e = .ok (.next e') ∧ I (k + xs.length) e'
  | [], e, k, h, _ => ⟨e, rfl, h⟩
  | x :: xs, e, k, h, hb => by
    obtain ⟨e1, h1, i1⟩ := hb 0 e (by simp) h
    have h1' : b x e = .ok (.next e1) := h1
    obtain ⟨e2, h2, i2⟩ := forL_inv (xs := xs) I (k + 1) i1 fun i e' hi hI => by
      have hI' : I (k + (i + 1)) e' := by
        rw [show k + (i + 1) = k + 1 + i by omega]
        exact hI
      obtain ⟨e3, h3, i3⟩ := hb (i + 1) e' (by simpa using hi) hI'
      refine ⟨e3, by simpa using h3, ?_⟩
      rw [show k + 1 + i + 1 = k + (i + 1) + 1 by omega]
      exact i3
    refine ⟨e2, ?_, ?_⟩
    · unfold forL
      rw [h1']
      exact h2
    · rw [show k + (x :: xs).length = k + 1 + xs.length by simp; omega]
      exact i2
/-- for each of range(n) -/
theorem forR_inv {b : D → Env → Res Fl} (I : Nat → Env → Prop) {n : Nat} {e : Env} (h0 : I 0 e) (hb : ∀ i e, i < n → I i e → ∃ e', b (.int ((i : Nat) : Int)) e = .ok (.next e') ∧ I (i + 1) e') :
    ∃ e', forL b ((List.range n).map fun i => .int ((i : Nat) : Int)) e = .ok (.next e') ∧ I n e' := by
  have q := forL_inv (b := b) (xs := (List.range n).map fun i => .int ((i : Nat) : Int)) I 0 h0 fun i e' hi hI => by
    have hi' : i < n := by simpa using hi
    have := hb i e' hi' (by simpa using hI)
    simpa using this
  simpa using q
/-- for each: return if it is so -/
theorem forL_find {b : D → Env → Res Fl} {p : D → Bool} {d : D} {i : Nat} : ∀ {xs : List D} {e : Env}, (∀ x ∈ xs, ∀ o, b x (e.set i o) = if p x then .ok (.ret d) else .ok (.next (e.set i (some x)))) → (b' : ∀ x ∈ xs, b x e = if p x then .ok (.ret d) else .ok (.next (e.set i (some x)))) →
    (xs.any p = true → forL b xs e = .ok (.ret d)) ∧ (xs.any p = false → ∃ o, forL b xs e = .ok (.next o) ∧ (o = e ∨ ∃ x, o = e.set i (some x)))
  | [], e, _, _ => ⟨fun h => by simp at h, fun _ => ⟨e, rfl, .inl rfl⟩⟩
  | x :: xs, e, h, h' => by
    have q := h' x List.mem_cons_self
    cases e1 : p x with
    | true =>
      rw [e1] at q
      refine ⟨fun _ => ?_, fun z => by simp [e1] at z⟩
      unfold forL
      rw [q] <;> rfl
    | false =>
      rw [e1] at q
      have ss : ∀ o, (e.set i (some x)).set i o = e.set i o := fun o => by simp [List.set_set]
      obtain ⟨q1, q2⟩ := forL_find (xs := xs) (e := e.set i (some x)) (b := b) (p := p) (d := d) (i := i) (fun y hy o => by
        rw [ss, ss]
        exact h y (List.mem_cons_of_mem _ hy) o) (fun y hy => by
        rw [ss]
        exact h y (List.mem_cons_of_mem _ hy) (some x))
      have e2 : forL b (x :: xs) e = forL b xs (e.set i (some x)) := by
        rw [forL]
        rw [q] <;> rfl
      refine ⟨fun z => ?_, fun z => ?_⟩
      · rw [e2]
        exact q1 (by simpa [e1] using z)
      · rw [e2]
        obtain ⟨o, h1, h2⟩ := q2 (by simpa [e1] using z)
        refine ⟨o, h1, .inr ?_⟩
        rcases h2 with h2 | ⟨y, h2⟩
        · exact ⟨x, h2⟩
        · exact ⟨y, by rw [h2, ss]⟩
/-! ### comprehensions -/
/-! ### sums, all -/
theorem intsOf_map : ∀ is : List Int, intsOf (is.map .int) = some is
  | [] => rfl
  | i :: is => by
    simp only [List.map_cons, intsOf, intsOf_map is]
    rfl
theorem boolsOf_map : ∀ is : List Bool, boolsOf (is.map .bl) = some is
  | [] => rfl
  | i :: is => by
    simp only [List.map_cons, boolsOf, boolsOf_map is]
    rfl
theorem bsum_ints (is : List Int) : bsum (.lst (is.map .int)) = .ok (.int is.sum) := by
  unfold bsum
  simp only [intsOf_map]
theorem ball_bools (bs : List Bool) : ball (.lst (bs.map .bl)) = .ok (.bl (bs.all id)) := by
  unfold ball
  simp only [boolsOf_map]
/-! ### bits -/
theorem oand1 (i : Int) : oand (.int i) (.int 1) = .ok (.int (i % 2)) := by rw [oand_ii, PyProof.Rows.bitAnd_m1]
theorem oshr_nat (c : Int) (p : Nat) : oshr (.int c) (.int (p : Int)) = .ok (.int (c / 2 ^ p)) := by
  rw [oshr_ii (Int.natCast_nonneg p), Int.toNat_natCast]
theorem intBits_1 : (Builtin.Int.intBits 1 : Int) = 1 := by decide
theorem oshl1 (p : Nat) (h : p ≤ 1000) : oshl (.int 1) (.int (p : Int)) = .ok (.int (2 ^ p)) := by
  rw [oshl_ii ⟨Int.natCast_nonneg p, by rw [intBits_1]; omega⟩, Int.toNat_natCast, Int.one_mul]
end Py.U
/-! More about mirrors: comprehensions over made lists, enumerate, slices, draws. -/
namespace Py.U
open PySem
theorem lst_at (ns : List Int) {k : Nat} (h : k < ns.length) : oidx (.lst (ns.map .int)) (.int (k : Int)) = .ok (.int ns[k]) := oidx_l (by simp [h])
def Drawn : List Int → List Int → Prop
  | [], [] => True
  | d :: ds, s :: ss => (0 ≤ d ∧ d < s) ∧ Drawn ds ss
  | _, _ => False
theorem Drawn.snoc : ∀ {ds ss : List Int} {d s : Int}, Drawn ds ss → 0 ≤ d → d < s → Drawn (ds ++ [d]) (ss ++ [s])
  | [], [], _, _, _, h1, h2 => ⟨⟨h1, h2⟩, trivial⟩
  | d :: ds, s :: ss, _, _, h, h1, h2 => ⟨h.1, Drawn.snoc h.2 h1 h2⟩
  | [], _ :: _, _, _, h, _, _ => h.elim
  | _ :: _, [], _, _, h, _, _ => h.elim
theorem Drawn.length : ∀ {ds ss : List Int}, Drawn ds ss → ds.length = ss.length
  | [], [], _ => rfl
  | d :: ds, s :: ss, h => congrArg (· + 1) (Drawn.length h.2)
  | [], _ :: _, h => h.elim
  | _ :: _, [], h => h.elim
theorem le_sz {n : Nat} (h : n ≤ 1000) : n ≤ SZ := Nat.le_trans h (by decide)
theorem compL_mapI {α : Type} {f : D → Res (Option D)} {k h : α → D} : ∀ {ys : List α}, (∀ y ∈ ys, f (k y) = .ok (some (h y))) → compL f (ys.map k) = .ok (ys.map h)
  | [], _ => rfl
  | y :: ys, q => by
    rw [List.map_cons, List.map_cons]
    unfold compL
    rw [q y List.mem_cons_self, compL_mapI fun z hz => q z (List.mem_cons_of_mem _ hz)] <;> rfl
theorem lc_mapI {α : Type} {it : IM} {vs : List Nat} {g : GM} {elt : EM} {e : Env} {ys : List α} {k h : α → D} (hi : it e = .ok (ys.map k)) (hz : ys.length ≤ SZ) (hx : ∀ y ∈ ys, ∃ e1, g (k y) (wipe e vs) = some e1 ∧ elt e1 = .ok (h y)) : lcE it vs g yes elt e = .ok (.lst (ys.map h)) := by
  unfold lcE
  rw [hi]
  have q : compL (compF vs g yes elt e) (ys.map k) = .ok (ys.map h) := compL_mapI fun x hm => by
    obtain ⟨e1, h1, h2⟩ := hx x hm
    unfold compF
    rw [h1]
    simp [yes, h2]
  simp only [bind_ok, q, noexc_ok, List.length_map]
  exact chk_ok hz
theorem sum_map {α : Type} (f : α → Int) (ys : List α) : bsum (.lst (ys.map fun y => .int (f y))) = .ok (.int (ys.map f).sum) := by
  have q := bsum_ints (ys.map f)
  rw [List.map_map] at q
  exact q
theorem seq_next {a b : SM} {e e' : Env} (h : a e = .ok (.next e')) : seq a b e = b e' := by
  rw [seq_eq, h]
  rfl
theorem oidx_mem {xs : List D} {i : Int} (h0 : 0 ≤ i) (h1 : i < (xs.length : Int)) : ∃ d ∈ xs, oidx (.lst xs) (.int i) = .ok d := by
  obtain ⟨k, rfl⟩ : ∃ k : Nat, i = (k : Int) := ⟨i.toNat, by omega⟩
  have hk : k < xs.length := by omega
  exact ⟨xs[k], List.getElem_mem hk, oidx_l (by simp [hk])⟩
theorem cut_mem {α : Type} {xs : List α} {lo hi : Option Int} {x : α} (h : x ∈ cut xs lo hi) : x ∈ xs := List.mem_of_mem_drop (List.mem_of_mem_take h)
theorem cut_len {α : Type} {xs : List α} {lo hi : Option Int} : (cut xs lo hi).length ≤ xs.length := by
  unfold cut
  rw [List.length_take, List.length_drop]
  omega
theorem oadd_ll {a b : List D} (h : a.length + b.length ≤ SZ) : oadd (.lst a) (.lst b) = .ok (.lst (a ++ b)) := if_pos h
theorem slc_eq (a : EM) (lo hi : Option EM) (e : Env) : slc a lo hi e = (a e >>= fun x => slc.bnd lo e >>= fun i => slc.bnd hi e >>= fun j => oslc x i j) := rfl
theorem bnd_none (e : Env) : slc.bnd none e = .ok none := rfl
theorem bnd_some (m : EM) (e : Env) : slc.bnd (some m) e = (m e >>= fun d => match d with | .int i => .ok (some i) | _ => .stuck) := rfl
end Py.U
/-! Words of numbers, bit by bit. -/
namespace Py.U
def bt (n p : Nat) : Nat := n / 2 ^ p % 2
theorem bt_tb (n p : Nat) : bt n p = if n.testBit p then 1 else 0 := by
  rw [Nat.testBit_eq_decide_div_mod_eq]
  unfold bt
  by_cases h : n / 2 ^ p % 2 = 1
  · simp [h]
  · simp [h]
    omega
theorem bt_zero (p : Nat) : bt 0 p = 0 := by
  unfold bt
  rw [Nat.zero_div]
theorem bt_and (x y p : Nat) : bt (x &&& y) p = if bt x p + bt y p = 2 then 1 else 0 := by
  rw [bt_tb, bt_tb, bt_tb, Nat.testBit_and]
  cases x.testBit p <;> cases y.testBit p <;> simp
theorem bt_or (x y p : Nat) : bt (x ||| y) p = if 0 < bt x p + bt y p then 1 else 0 := by
  rw [bt_tb, bt_tb, bt_tb, Nat.testBit_or]
  cases x.testBit p <;> cases y.testBit p <;> simp
theorem bt_xor (x y p : Nat) : bt (x ^^^ y) p = if bt x p = bt y p then 0 else 1 := by
  rw [bt_tb, bt_tb, bt_tb, Nat.testBit_xor]
  cases x.testBit p <;> cases y.testBit p <;> simp
/-! ### sums -/
def car (x y p : Nat) : Nat := (x % 2 ^ p + y % 2 ^ p) / 2 ^ p
/-! ### differences -/
def bor (x y p : Nat) : Nat := if x % 2 ^ p < y % 2 ^ p then 1 else 0
end Py.U
namespace Py.U
open PySem
theorem cell_ok (ns : List Int) (k : Nat) : ∃ c : Int, m_law_cell [.lst (ns.map .int), .int (k : Int)] = .ok (.int c) := by
  unfold m_law_cell
  rw [fn2]
  unfold b__law_cell
  by_cases h : k < ns.length
  · have h' : (k : Int) < (ns.length : Int) := by omega
    refine ⟨ns[k], ?_⟩
    simp [var, h', lst_at ns h]
  · have h' : ¬ (k : Int) < (ns.length : Int) := by omega
    by_cases h0 : 0 < ns.length
    · have h0' : (0 : Int) < (ns.length : Int) := by omega
      have hm : k % ns.length < ns.length := Nat.mod_lt _ h0
      have e1 : omod (.int (k : Int)) (.int (ns.length : Int)) = .ok (.int ((k : Int) % (ns.length : Int))) := omod_ii h0'
      have e2 := lst_at ns hm
      rw [Int.natCast_emod] at e2
      refine ⟨ns[k % ns.length] % 100003 + 7919 * k, ?_⟩
      simp [var, h', h0, e1, e2, omod_ii, omul_l, omul_r]
    · refine ⟨7919 * k + 5, ?_⟩
      simp [var, h', h0, omul_l, omul_r]
theorem mixed_ok (c k : Int) : ∃ r : Int, 0 ≤ r ∧ r < 125000001 ∧ m_law_mixed [.int c, .int k] = .ok (.int r) := by
  unfold m_law_mixed
  rw [fn2]
  unfold b__law_mixed
  have a0 := Int.emod_nonneg (c * 48271 + k * 1103515245 + 12345) (b := 2147483647) (by decide)
  have a1 := Int.emod_lt_of_pos (c * 48271 + k * 1103515245 + 12345) (b := 2147483647) (by decide)
  generalize e1 : (c * 48271 + k * 1103515245 + 12345) % 2147483647 = a at a0 a1
  have b0 := Int.emod_nonneg (a * a + 69621) (b := 2147483563) (by decide)
  have b1 := Int.emod_lt_of_pos (a * a + 69621) (b := 2147483563) (by decide)
  generalize e2 : (a * a + 69621) % 2147483563 = b at b0 b1
  have m1 : omul (.int a) (.int a) = .ok (.int (a * a)) := omul_ii (by unfold B64; omega)
  have m2 : omul (.int b) (.int (b % 65521 + 3)) = .ok (.int (b * (b % 65521 + 3))) := omul_ii (by unfold B64; omega)
  have c0 := Int.emod_nonneg (b * (b % 65521 + 3)) (b := 1000000007) (by decide)
  have c1 := Int.emod_lt_of_pos (b * (b % 65521 + 3)) (b := 1000000007) (by decide)
  refine ⟨b * (b % 65521 + 3) % 1000000007 / 8, by omega, by omega, ?_⟩
  simp [var, omod_ii, omul_l, omul_r, ofdiv_ii, e1, e2, m1, m2]
def DI (c : Int) (ss : List Int) (i : Nat) (e : Env) : Prop := ∃ (ds : List Int) (l : Int) (o : Option D), Drawn ds (ss.take i) ∧ e = [some (.int c), some (.lst (ss.map .int)), some (.lst (ds.map .int)), some (.int l), o]
def drawB : SM := Py.ite (andT (tst (bin oge (var 0) (bin opow (cst (.int 10)) (cst (.int 18))))) (andT (tst (bin olt (var 4) (cst (.int 60)))) (tst (bin ogt (var 3) (cst (.int 0)))))) (seq (app 2 (bin omod (un bint (var 3)) (bin oidx (var 1) (var 4))))
  (asg (gnm 3) (bin ofdiv (var 3) (bin oidx (var 1) (var 4))))) (app 2 (bin omod (call m_law_mixed (argC (var 0) (argC (var 4) argN))) (bin oidx (var 1) (var 4))))
theorem draw1 {c l z s r : Int} {ss ds : List Int} {o : Option D} (ix : oidx (.lst (ss.map .int)) (.int z) = .ok (.int s)) (h1 : 0 < s) (h2 : s < 1073741824) (hr : m_law_mixed [.int c, .int z] = .ok (.int r)) (hl : ds.length < SZ) :
    drawB [some (.int c), some (.lst (ss.map .int)), some (.lst (ds.map .int)), some (.int l), some (.int z)] =
      if 1000000000000000000 ≤ c ∧ z < 60 ∧ 0 < l then .ok (.next [some (.int c), some (.lst (ss.map .int)), some (.lst ((ds ++ [l % s]).map .int)), some (.int (l / s)), some (.int z)])
      else .ok (.next [some (.int c), some (.lst (ss.map .int)), some (.lst ((ds ++ [r % s]).map .int)), some (.int l), some (.int z)]) := by
  have hp := opow18
  have hl2 : (ds.map D.int).length < SZ := by rw [List.length_map]; exact hl
  unfold drawB
  by_cases g1 : (1000000000000000000 : Int) ≤ c
  · by_cases g2 : z < 60
    · by_cases g3 : 0 < l
      · simp [var, hp, g1, g2, g3, ix, omod_ii h1, ofdiv_ii ⟨h1, h2⟩, hl]
      · simp [var, hp, g1, g2, g3, ix, omod_ii h1, hr, hl]
    · simp [var, hp, g1, g2, ix, omod_ii h1, hr, hl]
  · simp [var, hp, g1, ix, omod_ii h1, hr, hl]
theorem draw_step {c : Int} {ss : List Int} (hz : ss.length < 1000) (hs : ∀ s ∈ ss, 0 < s ∧ s < 1073741824) : ∀ i e, i < ss.length → DI c ss i e → ∃ e', forB (gnm 4) drawB (.int ((i : Nat) : Int)) e = .ok (.next e') ∧ DI c ss (i + 1) e' := by
    rintro i e hi ⟨ds, l, o, hd, rfl⟩
    have hl := hd.length
    rw [List.length_take] at hl
    have hl2 : ds.length < SZ := by
      have : ds.length < 1000 := by omega
      exact Nat.lt_trans this (by decide)
    obtain ⟨h1, h2⟩ := hs ss[i] (List.getElem_mem hi)
    have ix := lst_at ss hi
    have ht : ss.take (i + 1) = ss.take i ++ [ss[i]] := by rw [List.take_add_one]; simp [hi]
    obtain ⟨r, r0, r1, hr⟩ := mixed_ok c i
    have q := draw1 (l := l) (o := o) ix h1 h2 hr hl2
    rw [forB_eq, gnm_eq, lift_some, bind_ok]
    by_cases g : (1000000000000000000 : Int) ≤ c ∧ (i : Int) < 60 ∧ 0 < l
    · rw [if_pos g] at q
      exact ⟨_, q, ds ++ [l % ss[i]], l / ss[i], _, by rw [ht]; exact hd.snoc (Int.emod_nonneg _ (by omega)) (Int.emod_lt_of_pos _ h1), rfl⟩
    · rw [if_neg g] at q
      exact ⟨_, q, ds ++ [r % ss[i]], l, _, by rw [ht]; exact hd.snoc (Int.emod_nonneg _ (by omega)) (Int.emod_lt_of_pos _ h1), rfl⟩
theorem v1 (c : Int) (ss : List Int) (hz : ss.length < 1000) (hs : ∀ s ∈ ss, 0 < s ∧ s < 1073741824) : ∃ ds : List Int, Drawn ds ss ∧ ∃ l o, forL (forB (gnm 4) drawB) ((List.range ss.length).map fun i => .int ((i : Nat) : Int)) [some (.int c), some (.lst (ss.map .int)), some (.lst []), some (.int c), none] = .ok (.next [some (.int c), some (.lst (ss.map .int)), some (.lst (ds.map .int)), some (.int l), o]) := by
  obtain ⟨e', h1, ds, l, o, hd, rfl⟩ := forR_inv (e := [some (.int c), some (.lst (ss.map .int)), some (.lst []), some (.int c), none]) (DI c ss) ⟨[], c, none, by simp [Drawn], rfl⟩ (draw_step hz hs)
  rw [List.take_length] at hd
  exact ⟨ds, hd, l, o, h1⟩
theorem v2 (c : Int) (ss : List Int) (hz : ss.length < 1000) : irng1 (un blen (var 1)) [some (.int c), some (.lst (ss.map .int)), some (.lst []), some (.int c), none] = .ok ((List.range ss.length).map fun i => .int ((i : Nat) : Int)) := by
  have hn : ss.length < B62 := rng_lt (by omega)
  exact irng1_nat (n := ss.length) (by simp [var]) hn
theorem draws_ok (c : Int) (ss : List Int) (hz : ss.length < 1000) (hs : ∀ s ∈ ss, 0 < s ∧ s < 1073741824) : ∃ ds : List Int, Drawn ds ss ∧ m_law_draws [.int c, .lst (ss.map .int)] = .ok (.lst (ds.map .int)) := by
  obtain ⟨ds, hd, l, o, h1⟩ := v1 c ss hz hs
  have hr := v2 c ss hz
  refine ⟨ds, hd, ?_⟩
  unfold m_law_draws
  rw [fn2]
  unfold b__law_draws
  have hc : chk ([] : List D).length (.lst []) = .ok (.lst []) := rfl
  show done (seq (asg (gnm 2) (lstE argN)) (seq (asg (gnm 3) (var 0)) (seq (for_ (irng1 (un blen (var 1))) (gnm 4) drawB) (ret (var 2)))) [some (.int c), some (.lst (ss.map .int)), none, none, none]) = _
  rw [seq_eq, asg_eq, lstE_eq, argN_eq, bind_ok, hc, bind_ok, gnm_eq, lift_some, bind_ok, bind_ok]
  dsimp only
  rw [seq_eq, asg_eq]
  have e1 : var 0 (List.set [some (D.int c), some (D.lst (ss.map .int)), none, none, none] 2 (some (D.lst []))) = .ok (.int c) := rfl
  rw [e1, bind_ok, gnm_eq, lift_some, bind_ok, bind_ok]
  dsimp only
  rw [seq_eq, for_eq]
  have e2 : irng1 (un blen (var 1)) (List.set (List.set [some (D.int c), some (D.lst (ss.map .int)), none, none, none] 2 (some (D.lst []))) 3 (some (D.int c))) = _ := hr
  rw [e2, bind_ok]
  have e3 : forL (forB (gnm 4) drawB) ((List.range ss.length).map fun i => .int ((i : Nat) : Int)) (List.set (List.set [some (D.int c), some (D.lst (ss.map .int)), none, none, none] 2 (some (D.lst []))) 3 (some (D.int c))) = _ := h1
  rw [e3, bind_ok]
  rfl
end Py.U
namespace Py.U
open PySem
/-! ### deeds -/
inductive Deed where
  | zero | ones | inv (a : Nat) | and (a b : Nat) | or (a b : Nat) | xor (a b : Nat)
  | shift (a : Nat) | minus (a : Nat) | add (a b : Nat) | sub (a b : Nat) | count (p r : Nat) (ps : List Nat)
def nD (n : Nat) : D := .int (n : Int)
def Deed.d : Deed → D
  | .zero => .tup [.str "zero"]
  | .ones => .tup [.str "ones"]
  | .inv a => .tup [.str "not", nD a]
  | .and a b => .tup [.str "and", nD a, nD b]
  | .or a b => .tup [.str "or", nD a, nD b]
  | .xor a b => .tup [.str "xor", nD a, nD b]
  | .shift a => .tup [.str "shift", nD a]
  | .minus a => .tup [.str "minus", nD a]
  | .add a b => .tup [.str "add", nD a, nD b]
  | .sub a b => .tup [.str "sub", nD a, nD b]
  | .count p r ps => .tup [.str "count", nD p, nD r, .tup (ps.map nD)]
/-- its values stand ahead of n -/
def Deed.ok (n : Nat) : Deed → Prop
  | .zero => True
  | .ones => True
  | .inv a => a < n
  | .and a b => a < n ∧ b < n
  | .or a b => a < n ∧ b < n
  | .xor a b => a < n ∧ b < n
  | .shift a => a < n
  | .minus a => a < n
  | .add a b => a < n ∧ b < n
  | .sub a b => a < n ∧ b < n
  | .count p r ps => (p = 2 ∨ p = 3 ∨ p = 5) ∧ r < p ∧ 1 ≤ ps.length ∧ ps.length ≤ 4 ∧ ∀ a ∈ ps, a < n
theorem mod_nat (z : Int) {n : Nat} (h : 0 < n) : ∃ a : Nat, a < n ∧ z % (n : Int) = (a : Int) := by
  have h0 : (0 : Int) < (n : Int) := by omega
  have a0 := Int.emod_nonneg z (b := (n : Int)) (by omega)
  have a1 := Int.emod_lt_of_pos z h0
  exact ⟨(z % (n : Int)).toNat, by omega, by omega⟩
/-! ### what deeds do, bit by bit -/
def at0 (bs : List Nat) (a : Nat) : Nat := bs.getD a 0
def tot (bs : List Nat) (ps : List Nat) : Nat := (ps.map (at0 bs)).sum
def Deed.top : Deed → Nat
  | .count p _ _ => p
  | _ => 2
def Deed.next (bs : List Nat) (m : Nat) : Deed → Nat
  | .shift a => at0 bs a
  | .minus a => if 1 ≤ at0 bs a + m then 1 else 0
  | .add a b => if 2 ≤ at0 bs a + at0 bs b + m then 1 else 0
  | .sub a b => if at0 bs a < at0 bs b + m then 1 else 0
  | .count p _ ps => (m + tot bs ps) % p
  | _ => 0
theorem bits_at {bs : List Nat} {a : Nat} (h : a < bs.length) : oidx (.lst (bs.map nD)) (nD a) = .ok (nD (at0 bs a)) := by
  refine oidx_l (k := a) ?_
  unfold at0
  simp [h]
theorem nat_eq (a b : Nat) : oeq (nD a) (nD b) = .ok (.bl (decide (a = b))) := by
  unfold nD
  rw [oeq_ii]
  congr 2
  rw [Bool.eq_iff_iff]
  simp only [beq_iff_eq, decide_eq_true_eq]
  exact Int.ofNat_inj
/-! the law's own bit -/
theorem ixt1 {a b : D} {r : List D} : oidx (.tup (a :: b :: r)) (.int 1) = .ok b := oidx_t (k := 1) rfl
theorem ixt0 {a : D} {r : List D} : oidx (.tup (a :: r)) (.int 0) = .ok a := oidx_t (k := 0) rfl
theorem ixt2 {a b c : D} {r : List D} : oidx (.tup (a :: b :: c :: r)) (.int 2) = .ok c := oidx_t (k := 2) rfl
theorem ixt3 {a b c d : D} {r : List D} : oidx (.tup (a :: b :: c :: d :: r)) (.int 3) = .ok d := oidx_t (k := 3) rfl
theorem nD_0 : nD 0 = .int 0 := rfl
theorem str_eq (a b : String) : oeq (.str a) (.str b) = .ok (.bl (a == b)) := rfl
theorem nadd (a b : Nat) : oadd (nD a) (nD b) = .ok (nD (a + b)) := by
  unfold nD
  rw [oadd_ii]
  rfl
theorem nmod (a : Nat) {p : Nat} (h : 0 < p) : omod (nD a) (nD p) = .ok (nD (a % p)) := by
  unfold nD
  rw [omod_ii (by omega)]
  rfl
/-- the deeds' values stand ahead -/
def Row (n : Nat) (xs : List Deed) : Prop := ∀ k, (h : k < xs.length) → xs[k].ok (n + k)
def Deed.name : Deed → String
  | .zero => "zero"
  | .ones => "ones"
  | .inv _ => "not"
  | .and _ _ => "and"
  | .or _ _ => "or"
  | .xor _ _ => "xor"
  | .shift _ => "shift"
  | .minus _ => "minus"
  | .add _ _ => "add"
  | .sub _ _ => "sub"
  | .count _ _ _ => "count"
theorem deed_name (x : Deed) : oidx x.d (.int 0) = .ok (.str x.name) := by cases x <;> exact ixt0
theorem bitN1 (l k : Nat) : oshr (nD l) (nD k) = .ok (nD (l / 2 ^ k)) := by
  unfold nD
  rw [oshr_nat]
  simp
theorem bitN2 (l : Nat) : oand (nD l) (.int 1) = .ok (nD (l % 2)) := by
  unfold nD
  rw [oand1]
  rfl
def rowD (n : Nat) (xs : List Deed) (out : Nat) : D := .ins "Row" [("inputs", nD n), ("deeds", .tup (xs.map Deed.d)), ("out", nD out)]
theorem row_inputs (n : Nat) (xs : List Deed) (out : Nat) : oattr ["Row"] "inputs" (rowD n xs out) = .ok (nD n) := rfl
theorem row_deeds (n : Nat) (xs : List Deed) (out : Nat) : oattr ["Row"] "deeds" (rowD n xs out) = .ok (.tup (xs.map Deed.d)) := rfl
theorem enum_at {ds : List D} {k i : Nat} (h : i < (enumL k ds).length) (h2 : i < ds.length) : (enumL k ds)[i] = .tup [.int ((k + i : Nat) : Int), ds[i]] := by
  induction ds generalizing k i with
  | nil => simp at h2
  | cons d ds ih =>
    cases i with
    | zero => rfl
    | succ i =>
      simp only [enumL, List.getElem_cons_succ]
      rw [ih (k := k + 1) _ (by simpa using h2)]
      rw [show k + 1 + i = k + (i + 1) by omega]
theorem enum_len : ∀ (ds : List D) (k : Nat), (enumL k ds).length = ds.length
  | [], _ => rfl
  | d :: ds, k => by
    simp only [enumL, List.length_cons]
    rw [enum_len ds]
theorem isint_ok (n : Nat) : m_is_integer [nD n] = .ok (.bl true) := by
  have h1 : oisi CS [.int] (nD n) = .ok (.bl true) := rfl
  have h2 : oisi CS [.bl] (nD n) = .ok (.bl false) := rfl
  unfold m_is_integer
  rw [fn1]
  unfold b_is_integer
  generalize nD n = N at *
  simp [var, h1, h2]
theorem is_below_ok (a b : Nat) : m_is_below [nD a, nD b] = .ok (.bl (decide (a < b))) := by
  have h := isint_ok a
  have h1 : ole (.int 0) (nD a) = .ok (.bl true) := by
    unfold nD
    rw [ole_ii, decide_eq_true (by omega)]
  have h2 : olt (nD a) (nD b) = .ok (.bl (decide (a < b))) := by
    unfold nD
    rw [olt_ii]
    congr 2
    exact decide_eq_decide.mpr (by omega)
  unfold m_is_below
  rw [fn2]
  unfold b_is_below
  generalize nD a = A at *
  generalize nD b = B at *
  simp [var, h, h1, h2]
theorem shl_nD {n : Nat} (h : n ≤ 1000) : oshl (.int 1) (nD n) = .ok (nD (2 ^ n)) := by
  unfold nD
  rw [oshl1 n h]
  simp
/-! ### the same? -/
/-! ### the row is made -/
theorem inputs_ok {n : Nat} (h1 : 1 ≤ n) (h3 : n ≤ 3) : m_is_inputs [nD n] = .ok (.bl true) := by
  have : n = 1 ∨ n = 2 ∨ n = 3 := by omega
  rcases this with rfl | rfl | rfl <;> rfl
theorem are_values_ok {W : D} {ps : List Nat} {k : Nat} (hW : iseq (var 0) [some W, some (nD k), none] = .ok (ps.map nD)) (hp : ∀ a ∈ ps, a < k) (hz : ps.length ≤ 1000) : m_are_values [W, nD k] = .ok (.bl true) := by
  have hc : lcE (iseq (var 0)) [2] (gnm 2) yes (call m_is_below (argC (var 2) (argC (var 1) argN))) [some W, some (nD k), none] = .ok (.lst (ps.map fun _ => .bl true)) := by
    refine lc_mapI (k := nD) hW (le_sz hz) fun a ha => ?_
    have q := is_below_ok a k
    rw [decide_eq_true (hp a ha)] at q
    generalize nD a = A at *
    generalize nD k = N at *
    exact ⟨_, rfl, by simp only [wipe]; simp [var, q]⟩
  have hb : ball (.lst (ps.map fun _ => .bl true)) = .ok (.bl true) := by
    have := ball_bools (ps.map fun _ => true)
    rw [List.map_map] at this
    refine this.trans ?_
    rw [show (ps.map fun _ => true).all id = true by simp]
  unfold m_are_values
  rw [fn2]
  unfold b_are_values
  generalize nD k = N at *
  generalize D.lst (ps.map fun _ => .bl true) = Z at *
  simp [var, hc, hb]
theorem values_t {ps : List Nat} {k : Nat} (hp : ∀ a ∈ ps, a < k) (hz : ps.length ≤ 1000) : m_are_values [.tup (ps.map nD), nD k] = .ok (.bl true) := are_values_ok (by simp [var]) hp hz
theorem count_deed_ok {p r k : Nat} {ps : List Nat} (hp : p = 2 ∨ p = 3 ∨ p = 5) (hr : r < p) (h1 : 1 ≤ ps.length) (h4 : ps.length ≤ 4) (ha : ∀ a ∈ ps, a < k) : m_is_count_deed [(Deed.count p r ps).d, nD k] = .ok (.bl true) := by
  have q1 := isint_ok p
  have q2 := is_below_ok r p
  rw [decide_eq_true hr] at q2
  have q3 := values_t ha (by omega)
  have q4 : onotin (nD p) (.tup [.int 2, .int 3, .int 5]) = .ok (.bl false) := by rcases hp with rfl | rfl | rfl <;> rfl
  have q5 : blen (Deed.count p r ps).d = .ok (.int 4) := rfl
  have q6 : oslc (Deed.count p r ps).d (some 1) none = .ok (.tup [nD p, nD r, .tup (ps.map nD)]) := rfl
  have q7 : oisi CS [.tup] (.tup (ps.map nD)) = .ok (.bl true) := rfl
  have q8 : blen (.tup (ps.map nD)) = .ok (.int ((ps.length : Nat) : Int)) := by simp
  have q9 : ole (.int 1) (.int ((ps.length : Nat) : Int)) = .ok (.bl true) := by rw [ole_ii, decide_eq_true (by omega)]
  have q10 : ole (.int ((ps.length : Nat) : Int)) (.int 4) = .ok (.bl true) := by rw [ole_ii, decide_eq_true (by omega)]
  unfold m_is_count_deed
  rw [fn2]
  unfold b_is_count_deed
  generalize (Deed.count p r ps).d = X at *
  generalize D.tup (ps.map nD) = T at *
  generalize ((ps.length : Nat) : Int) = Z at *
  generalize nD p = P' at *
  generalize nD r = R' at *
  generalize nD k = K' at *
  simp [var, gtup, gtupL, slc_eq, bnd_none, bnd_some, q1, q2, q3, q4, q5, q6, q7, q8, q9, q10]
theorem deed_plain {s : String} {vs : List Nat} {k : Nat} (hs : oeq (.str s) (.str "count") = .ok (.bl false)) (ht : onothas tab_SIZES (.str s) = .ok (.bl false)) (hl : olook tab_SIZES (.str s) = .ok (.int (vs.length : Int))) (ha : ∀ a ∈ vs, a < k) (hz : vs.length ≤ 1000) : m_is_deed [.tup (.str s :: vs.map nD), nD k] = .ok (.bl true) := by
  have q1 : oisi CS [.tup] (.tup (.str s :: vs.map nD)) = .ok (.bl true) := rfl
  have q2 : truthy (.tup (.str s :: vs.map nD)) = .ok true := by simp [truthy]
  have q3 : oidx (.tup (.str s :: vs.map nD)) (.int 0) = .ok (.str s) := oidx_t (k := 0) rfl
  have q4 : oisi CS [.str] (.str s) = .ok (.bl true) := rfl
  have q5 : blen (.tup (.str s :: vs.map nD)) = .ok (.int ((vs.length : Int) + 1)) := by simp
  have q6 : oslc (.tup (.str s :: vs.map nD)) (some 1) none = .ok (.tup (vs.map nD)) := by
    show Res.ok (D.tup (cut (.str s :: vs.map nD) (some 1) none)) = _
    have e : cut (D.str s :: vs.map nD) (some 1) none = vs.map nD := by
      unfold cut
      have e0 : HT.sIx (D.str s :: vs.map nD).length 0 (some 1) = 1 := by
        rw [show (1 : Int) = ((1 : Nat) : Int) from rfl, HT.sIx_nat]
        simp
      have e1 : HT.sIx (D.str s :: vs.map nD).length (D.str s :: vs.map nD).length none = (D.str s :: vs.map nD).length := rfl
      rw [e0, e1]
      have l : (vs.map nD).length = vs.length := List.length_map _
      simp only [List.drop_succ_cons, List.drop_zero, List.length_cons, Nat.add_sub_cancel]
      exact List.take_of_length_le (by omega)
    rw [e]
  have q7 := values_t ha hz
  unfold m_is_deed
  rw [fn2]
  unfold b_is_deed
  generalize D.tup (.str s :: vs.map nD) = X at *
  generalize D.tup (vs.map nD) = T at *
  generalize nD k = K' at *
  simp [var, slc_eq, bnd_none, bnd_some, q1, q2, q3, q4, q5, q6, q7, hs, ht, hl]
theorem deed_count {p r k : Nat} {ps : List Nat} (hp : p = 2 ∨ p = 3 ∨ p = 5) (hr : r < p) (h1 : 1 ≤ ps.length) (h4 : ps.length ≤ 4) (ha : ∀ a ∈ ps, a < k) : m_is_deed [(Deed.count p r ps).d, nD k] = .ok (.bl true) := by
  have q := count_deed_ok hp hr h1 h4 ha
  have q1 : oisi CS [.tup] (Deed.count p r ps).d = .ok (.bl true) := rfl
  have q2 : truthy (Deed.count p r ps).d = .ok true := rfl
  have q3 : oidx (Deed.count p r ps).d (.int 0) = .ok (.str "count") := rfl
  have q4 : oisi CS [.str] (.str "count") = .ok (.bl true) := rfl
  have q5 : oeq (.str "count") (.str "count") = .ok (.bl true) := rfl
  unfold m_is_deed
  rw [fn2]
  unfold b_is_deed
  generalize (Deed.count p r ps).d = X at *
  generalize nD k = K' at *
  simp [var, q, q1, q2, q3, q4, q5]
theorem is_deed_ok {k : Nat} {x : Deed} (h : x.ok k) : m_is_deed [x.d, nD k] = .ok (.bl true) := by
  cases x with
  | zero => exact deed_plain (s := "zero") (vs := []) rfl rfl rfl (by simp) (by simp)
  | ones => exact deed_plain (s := "ones") (vs := []) rfl rfl rfl (by simp) (by simp)
  | inv a => exact deed_plain (s := "not") (vs := [a]) rfl rfl rfl (by simpa [Deed.ok] using h) (by simp)
  | and a b => exact deed_plain (s := "and") (vs := [a, b]) rfl rfl rfl (by simpa [Deed.ok] using h) (by simp)
  | or a b => exact deed_plain (s := "or") (vs := [a, b]) rfl rfl rfl (by simpa [Deed.ok] using h) (by simp)
  | xor a b => exact deed_plain (s := "xor") (vs := [a, b]) rfl rfl rfl (by simpa [Deed.ok] using h) (by simp)
  | shift a => exact deed_plain (s := "shift") (vs := [a]) rfl rfl rfl (by simpa [Deed.ok] using h) (by simp)
  | minus a => exact deed_plain (s := "minus") (vs := [a]) rfl rfl rfl (by simpa [Deed.ok] using h) (by simp)
  | add a b => exact deed_plain (s := "add") (vs := [a, b]) rfl rfl rfl (by simpa [Deed.ok] using h) (by simp)
  | sub a b => exact deed_plain (s := "sub") (vs := [a, b]) rfl rfl rfl (by simpa [Deed.ok] using h) (by simp)
  | count p r ps => exact deed_count h.1 h.2.1 h.2.2.1 h.2.2.2.1 h.2.2.2.2
theorem made_eq {p n : Nat} {cls : String} {body : SM} {ds : List D} {c : String} {fs : List (String × D)} {r : Env} (hl : ds.length + 1 = p) (h : body ((some (.ins cls []) :: ds.map some) ++ List.replicate (n - p) none) = .ok (.next (some (.ins c fs) :: r))) : made p n cls body ds = .ok (.ins c fs) := by
  unfold made
  rw [if_pos hl, h]
theorem drawn7 {ds : List Int} {a b c d e f g : Int} (h : Drawn ds [a, b, c, d, e, f, g]) : ∃ x0 x1 x2 x3 x4 x5 x6, ds = [x0, x1, x2, x3, x4, x5, x6] ∧ (0 ≤ x0 ∧ x0 < a) ∧ (0 ≤ x3 ∧ x3 < d) ∧ 0 ≤ x6 ∧ x6 < g := by
  match ds, h with
  | [x0, x1, x2, x3, x4, x5, x6], ⟨h0, _, _, h3, _, _, h6, _⟩ => exact ⟨x0, x1, x2, x3, x4, x5, x6, rfl, h0, h3, h6⟩
theorem Row.snoc {n : Nat} {xs : List Deed} {x : Deed} (hr : Row n xs) (hx : x.ok (n + xs.length)) : Row n (xs ++ [x]) := fun k hk => by
  by_cases h : k < xs.length
  · rw [List.getElem_append_left h]
    exact hr k h
  · have e : k = xs.length := by
      simp at hk
      omega
    subst e
    simpa using hx
theorem mod_nD (z : Int) {n : Nat} (h : 0 < n) : ∃ a : Nat, a < n ∧ omod (.int z) (nD n) = .ok (nD a) := by
  obtain ⟨a, ha, e⟩ := mod_nat z h
  refine ⟨a, ha, ?_⟩
  unfold nD
  rw [omod_ii (by omega), e]
end Py.U
namespace Py.U
open PySem
/-! ### words of deeds -/
def bts (ns : List Nat) (p : Nat) : List Nat := ns.map fun n => bt n p
theorem at0_bts (ns : List Nat) (p a : Nat) : at0 (bts ns p) a = bt (at0 ns a) p := by
  unfold at0 bts
  by_cases h : a < ns.length
  · simp [h]
  · simp [h, bt_zero]
def onesAt (ns ps : List Nat) : Nat → Nat
  | 0 => 0
  | q + 1 => onesAt ns ps q + tot (bts ns q) ps
def cw (ns : List Nat) (p r : Nat) (ps : List Nat) : Nat → Nat
  | 0 => 0
  | q + 1 => cw ns p r ps q + if onesAt ns ps q % p = r then 2 ^ q else 0
def Deed.val (w : Nat) (ns : List Nat) : Deed → Nat
  | .zero => 0
  | .ones => 2 ^ w - 1
  | .inv a => 2 ^ w - 1 - at0 ns a
  | .and a b => at0 ns a &&& at0 ns b
  | .or a b => at0 ns a ||| at0 ns b
  | .xor a b => at0 ns a ^^^ at0 ns b
  | .shift a => 2 * at0 ns a % 2 ^ w
  | .minus a => (0 + (2 ^ w - at0 ns a)) % 2 ^ w
  | .add a b => (at0 ns a + at0 ns b) % 2 ^ w
  | .sub a b => (at0 ns a + (2 ^ w - at0 ns b)) % 2 ^ w
  | .count p r ps => cw ns p r ps w
/-- the mark at a place -/
def Deed.mk (ns : List Nat) (p : Nat) : Deed → Nat
  | .shift a => if p = 0 then 0 else bt (at0 ns a) (p - 1)
  | .minus a => bor 0 (at0 ns a) p
  | .add a b => car (at0 ns a) (at0 ns b) p
  | .sub a b => bor (at0 ns a) (at0 ns b) p
  | .count m _ ps => onesAt ns ps p % m
  | _ => 0
theorem cw_lt (ns : List Nat) (p r : Nat) (ps : List Nat) : ∀ q, cw ns p r ps q < 2 ^ q
  | 0 => by
    show 0 < 1
    decide
  | q + 1 => by
    have h := cw_lt ns p r ps q
    unfold cw
    rw [Nat.pow_succ]
    split <;> omega
/-- words below 2 ^ w -/
def Low (w : Nat) (ns : List Nat) : Prop := ∀ n ∈ ns, n < 2 ^ w
theorem at0_low {w : Nat} {ns : List Nat} (h : Low w ns) (a : Nat) : at0 ns a < 2 ^ w := by
  unfold at0
  by_cases q : a < ns.length
  · simp only [List.getD_eq_getElem?_getD, List.getElem?_eq_getElem q, Option.getD_some]
    exact h _ (List.getElem_mem q)
  · rw [List.getD_eq_getElem?_getD, List.getElem?_eq_none (by omega)]
    exact Nat.two_pow_pos w
theorem val_lt {w : Nat} {ns : List Nat} (h : Low w ns) (x : Deed) : x.val w ns < 2 ^ w := by
  have hp : 0 < 2 ^ w := Nat.two_pow_pos w
  cases x with
  | zero => exact hp
  | ones =>
    show 2 ^ w - 1 < 2 ^ w
    omega
  | inv a =>
    show 2 ^ w - 1 - at0 ns a < 2 ^ w
    omega
  | and a b => exact Nat.and_lt_two_pow _ (at0_low h b)
  | or a b => exact Nat.or_lt_two_pow (at0_low h a) (at0_low h b)
  | xor a b => exact Nat.xor_lt_two_pow (at0_low h a) (at0_low h b)
  | count p r ps => exact cw_lt ns p r ps w
  | _ => exact Nat.mod_lt _ hp
/-! ### all values -/
def vals (w : Nat) (bs : List Nat) (xs : List Deed) : List Nat := xs.foldl (fun ns x => ns ++ [x.val w ns]) bs
theorem vals_app (w : Nat) (bs : List Nat) (xs ys : List Deed) : vals w bs (xs ++ ys) = vals w (vals w bs xs) ys := by
  unfold vals
  rw [List.foldl_append]
theorem vals_snoc (w : Nat) (bs : List Nat) (xs : List Deed) (x : Deed) : vals w bs (xs ++ [x]) = vals w bs xs ++ [x.val w (vals w bs xs)] := by
  rw [vals_app]
  rfl
theorem vals_len (w : Nat) (xs : List Deed) : ∀ bs : List Nat, (vals w bs xs).length = bs.length + xs.length := by
  induction xs with
  | nil => intro bs; rfl
  | cons x xs ih =>
    intro bs
    have e : vals w bs (x :: xs) = vals w (bs ++ [x.val w bs]) xs := rfl
    rw [e, ih]
    simp
    omega
theorem vals_low {w : Nat} (xs : List Deed) : ∀ {bs : List Nat}, Low w bs → Low w (vals w bs xs) := by
  induction xs with
  | nil => intro bs h; exact h
  | cons x xs ih =>
    intro bs h
    refine ih (bs := bs ++ [x.val w bs]) fun n hn => ?_
    rcases List.mem_append.mp hn with q | q
    · exact h n q
    · rw [List.mem_singleton.mp q]
      exact val_lt h x
end Py.U
namespace Py.U
open PySem
/-! ### numbers from nought -/
theorem nsub {a b : Nat} (h : b ≤ a) : osub (nD a) (nD b) = .ok (nD (a - b)) := by
  unfold nD
  rw [osub_ii]
  congr 2
  omega
theorem bnot_nat (a : Nat) : Builtin.bitNot (Builtin.bitNot (a : Int)) = (a : Int) := by
  show -(-(a : Int) - 1) - 1 = (a : Int)
  omega
theorem nand (a b : Nat) : oand (nD a) (nD b) = .ok (nD (a &&& b)) := by
  unfold nD
  rw [oand_ii]
  rfl
theorem bor_nat (a b : Nat) : Builtin.bitOr (a : Int) (b : Int) = ((a ||| b : Nat) : Int) := by
  have h1 : Builtin.bitNot (a : Int) = Int.negSucc a := by
    show -(a : Int) - 1 = Int.negSucc a
    rw [Int.negSucc_eq]
    omega
  have h2 : Builtin.bitNot (b : Int) = Int.negSucc b := by
    show -(b : Int) - 1 = Int.negSucc b
    rw [Int.negSucc_eq]
    omega
  show Builtin.bitNot (Builtin.bitAnd (Builtin.bitNot (a : Int)) (Builtin.bitNot (b : Int))) = _
  rw [h1, h2]
  have e : Builtin.bitAnd (Int.negSucc a) (Int.negSucc b) = Builtin.bitNot ((a ||| b : Nat) : Int) := by
    show Builtin.bitNot (((Builtin.bitNot (Int.negSucc a)).toNat ||| (Builtin.bitNot (Int.negSucc b)).toNat : Nat) : Int) = _
    have e1 : (Builtin.bitNot (Int.negSucc a)).toNat = a := by
      rw [← h1, bnot_nat, Int.toNat_natCast]
    have e2 : (Builtin.bitNot (Int.negSucc b)).toNat = b := by
      rw [← h2, bnot_nat, Int.toNat_natCast]
    rw [e1, e2]
  rw [e, bnot_nat]
theorem or_split : ∀ (n a b : Nat), a < 2 ^ n → b < 2 ^ n → (a ||| b) = (a ^^^ b) + (a &&& b)
  | 0, a, b, ha, hb => by
    have e1 : a = 0 := by
      simp at ha
      exact ha
    have e2 : b = 0 := by
      simp at hb
      exact hb
    subst e1 e2
    rfl
  | n + 1, a, b, ha, hb => by
    have hp := Nat.pow_succ 2 n
    have ih := or_split n (a / 2) (b / 2) (by omega) (by omega)
    have d1 := Nat.or_div_two (a := a) (b := b)
    have d2 := Nat.xor_div_two (a := a) (b := b)
    have d3 := Nat.and_div_two (a := a) (b := b)
    have b0 : ∀ n : Nat, bt n 0 = n % 2 := fun n => by
      unfold bt
      simp
    have t1 := bt_or a b 0
    have t2 := bt_xor a b 0
    have t3 := bt_and a b 0
    rw [b0, b0, b0] at t1 t2 t3
    have m1 : (a ||| b) % 2 = (a ^^^ b) % 2 + (a &&& b) % 2 := by
      rcases Nat.mod_two_eq_zero_or_one a with h1 | h1 <;> rcases Nat.mod_two_eq_zero_or_one b with h2 | h2 <;> rw [h1, h2] at t1 t2 t3 <;> split at t1 <;> split at t2 <;> split at t3 <;> omega
    omega
theorem nor (a b : Nat) : oor (nD a) (nD b) = .ok (nD (a ||| b)) := by
  unfold nD
  show Res.ok (D.int (Builtin.bitOr _ _)) = _
  rw [bor_nat]
theorem bxor_nat (a b : Nat) : Builtin.bitXor (a : Int) (b : Int) = ((a ^^^ b : Nat) : Int) := by
  show Builtin.bitOr (a : Int) (b : Int) - Builtin.bitAnd (a : Int) (b : Int) = _
  rw [bor_nat]
  have e : Builtin.bitAnd (a : Int) (b : Int) = ((a &&& b : Nat) : Int) := rfl
  rw [e]
  have h := or_split (a + b) a b (Nat.lt_of_lt_of_le Nat.lt_two_pow_self (Nat.pow_le_pow_right (by decide) (by omega))) (Nat.lt_of_lt_of_le Nat.lt_two_pow_self (Nat.pow_le_pow_right (by decide) (by omega)))
  omega
theorem nxor (a b : Nat) : oxor (nD a) (nD b) = .ok (nD (a ^^^ b)) := by
  unfold nD
  show Res.ok (D.int (Builtin.bitXor _ _)) = _
  rw [bxor_nat]
theorem ior_pow {a k : Nat} (h : a < 2 ^ k) : oior (nD a) (nD (2 ^ k)) = .ok (nD (a + 2 ^ k)) := by
  unfold nD
  show Res.ok (D.int (Builtin.bitOr _ _)) = _
  rw [bor_nat]
  have e := Nat.two_pow_add_eq_or_of_lt h 1
  rw [Nat.mul_one] at e
  rw [Nat.or_comm, ← e, Nat.add_comm]
theorem n_mask {w : Nat} (z : Int) : oand (.int z) (nD (2 ^ w - 1)) = .ok (.int (z % 2 ^ w)) := by
  have e : ((2 ^ w - 1 : Nat) : Int) = 2 ^ w - 1 := by
    have h : 1 ≤ 2 ^ w := Nat.two_pow_pos w
    rw [Int.natCast_sub h]
    simp
  unfold nD
  rw [oand_ii, e, PySem.W.kbt_mask]
theorem sub_mod {x y w : Nat} (hy : y < 2 ^ w) : ((x : Int) - (y : Int)) % ((2 ^ w : Nat) : Int) = (((x + (2 ^ w - y)) % 2 ^ w : Nat) : Int) := by
  rw [Int.natCast_emod]
  have e : ((x + (2 ^ w - y) : Nat) : Int) = (x : Int) - (y : Int) + ((2 ^ w : Nat) : Int) := by omega
  rw [e, Int.add_emod_right]
end Py.U
namespace Py.U
open PySem
/-! ### the program's words -/
def cwB : SM := (seq (Py.ite (tst (bin oeq (var 5) (var 2))) (aug 4 oior (bin oshl (cst (.int 1)) (var 6))) skip)
  (asg (gnm 5) (bin omod (bin oadd (var 5) (un bsum (lcE (iseq (var 3)) [7] (gnm 7) yes (bin oand (bin oshr (var 7) (var 6)) (cst (.int 1)))))) (var 1))))
theorem part_sum {ns ps : List Nat} {k : Nat} (hz : ps.length ≤ 1000) (a b c d e f : Option D) : lcE (iseq (var 3)) [7] (gnm 7) yes (bin oand (bin oshr (var 7) (var 6)) (cst (.int 1))) [a, b, c, some (.lst (ps.map fun a => nD (at0 ns a))), d, e, some (nD k), f] = .ok (.lst (ps.map fun a => nD (at0 (bts ns k) a))) := by
  refine lc_mapI (k := fun a => nD (at0 ns a)) (by simp [var]) (le_sz hz) fun y _ => ?_
  have b1 := bitN1 (at0 ns y) k
  have b2 := bitN2 (at0 ns y / 2 ^ k)
  rw [at0_bts]
  show ∃ e1, _ ∧ _ = Res.ok (nD (at0 ns y / 2 ^ k % 2))
  generalize nD (at0 ns y / 2 ^ k % 2) = u at *
  generalize nD (at0 ns y / 2 ^ k) = v at *
  generalize nD (at0 ns y) = z at *
  generalize nD k = q at *
  exact ⟨_, rfl, by simp only [wipe]; simp [var, b1, b2]⟩
theorem sum_nD (f : Nat → Nat) (ps : List Nat) : bsum (.lst (ps.map fun a => nD (f a))) = .ok (nD ((ps.map f).sum)) := by
  have h := sum_map (fun a => ((f a : Nat) : Int)) ps
  have e : ∀ l : List Nat, (l.map fun a => ((f a : Nat) : Int)).sum = (((l.map f).sum : Nat) : Int) := fun l => by
    induction l with
    | nil => rfl
    | cons a l ih => simp [ih]
  rw [e] at h
  exact h
theorem counted_ok {w : Nat} (hw : w ≤ 1000) {ns : List Nat} {p r : Nat} {ps : List Nat} (hp : 0 < p) (hz : ps.length ≤ 1000) : m_counted_word [nD w, nD p, nD r, .lst (ps.map fun a => nD (at0 ns a))] = .ok (nD (cw ns p r ps w)) := by
  obtain ⟨e', h1, o6, rfl⟩ := forR_inv (b := forB (gnm 6) cwB) (n := w) (e := [some (nD w), some (nD p), some (nD r), some (.lst (ps.map fun a => nD (at0 ns a))), some (nD 0), some (nD 0), none, none])
    (fun k e => ∃ o6, e = [some (nD w), some (nD p), some (nD r), some (.lst (ps.map fun a => nD (at0 ns a))), some (nD (cw ns p r ps k)), some (nD (onesAt ns ps k % p)), o6, none]) ⟨none, by simp [cw, onesAt]⟩ (by
      rintro k e hk ⟨o6, rfl⟩
      have q1 := nat_eq (onesAt ns ps k % p) r
      have q2 := shl_nD (n := k) (by omega)
      have q3 := ior_pow (cw_lt ns p r ps k)
      have q4 := fun a b c d e f => part_sum (ns := ns) (ps := ps) (k := k) hz a b c d e f
      have q5 : bsum (.lst (ps.map fun a => nD (at0 (bts ns k) a))) = .ok (nD (tot (bts ns k) ps)) := sum_nD (at0 (bts ns k)) ps
      have q6 := nadd (onesAt ns ps k % p) (tot (bts ns k) ps)
      have q7 := nmod (onesAt ns ps k % p + tot (bts ns k) ps) (p := p) (by omega)
      have e1 : onesAt ns ps (k + 1) % p = (onesAt ns ps k % p + tot (bts ns k) ps) % p := by
        rw [Nat.mod_add_mod]
        rfl
      rw [forB_eq, gnm_eq, lift_some, bind_ok, e1]
      show ∃ e', cwB [some (nD w), some (nD p), some (nD r), some (.lst (ps.map fun a => nD (at0 ns a))), some (nD (cw ns p r ps k)), some (nD (onesAt ns ps k % p)), some (nD k), none] = _ ∧ _
      by_cases c : onesAt ns ps k % p = r
      · have e2 : cw ns p r ps (k + 1) = cw ns p r ps k + 2 ^ k := by
          show cw ns p r ps k + (if onesAt ns ps k % p = r then 2 ^ k else 0) = _
          rw [if_pos c]
        rw [e2]
        rw [decide_eq_true c] at q1
        refine ⟨_, ?_, some (nD k), rfl⟩
        generalize nD ((onesAt ns ps k % p + tot (bts ns k) ps) % p) = t1 at *
        generalize nD (onesAt ns ps k % p + tot (bts ns k) ps) = t2 at *
        generalize nD (tot (bts ns k) ps) = t3 at *
        generalize nD (onesAt ns ps k % p) = t4 at *
        generalize nD (cw ns p r ps k + 2 ^ k) = t5 at *
        generalize nD (cw ns p r ps k) = t6 at *
        generalize nD (2 ^ k) = t7 at *
        generalize nD k = t8 at *
        generalize hA : (ps.map fun a => nD (at0 ns a)) = t9 at *
        generalize hB : (ps.map fun a => nD (at0 (bts ns k) a)) = t10 at *
        generalize nD p = t11 at *
        generalize nD r = t12 at *
        generalize nD w = t13 at *
        simp [cwB, var, q1, q2, q3, q4, q5, q6, q7]
      · have e2 : cw ns p r ps (k + 1) = cw ns p r ps k := by
          show cw ns p r ps k + (if onesAt ns ps k % p = r then 2 ^ k else 0) = _
          rw [if_neg c, Nat.add_zero]
        rw [e2]
        rw [decide_eq_false c] at q1
        refine ⟨_, ?_, some (nD k), rfl⟩
        generalize nD ((onesAt ns ps k % p + tot (bts ns k) ps) % p) = t1 at *
        generalize nD (onesAt ns ps k % p + tot (bts ns k) ps) = t2 at *
        generalize nD (tot (bts ns k) ps) = t3 at *
        generalize nD (onesAt ns ps k % p) = t4 at *
        generalize nD (cw ns p r ps k) = t6 at *
        generalize nD k = t8 at *
        generalize hA : (ps.map fun a => nD (at0 ns a)) = t9 at *
        generalize hB : (ps.map fun a => nD (at0 (bts ns k) a)) = t10 at *
        generalize nD p = t11 at *
        generalize nD r = t12 at *
        generalize nD w = t13 at *
        simp [cwB, var, q1, q4, q5, q6, q7])
  have hr : ∀ a b c d e f g : Option D, irng1 (var 0) [some (nD w), a, b, c, d, e, f, g] = .ok ((List.range w).map fun i => .int ((i : Nat) : Int)) := fun a b c d e f g => irng1_nat (by simp [var, nD]) (rng_lt hw)
  unfold m_counted_word
  rw [fn4]
  show done (seq (asg (gnm 4) (cst (.int 0))) (seq (asg (gnm 5) (cst (.int 0))) (seq (for_ (irng1 (var 0)) (gnm 6) cwB) (ret (var 4)))) [some (nD w), some (nD p), some (nD r), some (.lst (ps.map fun a => nD (at0 ns a))), none, none, none, none]) = _
  change forL _ _ [_, _, _, _, some (.int 0), some (.int 0), none, none] = _ at h1
  generalize nD (cw ns p r ps w) = t1 at *
  generalize nD (onesAt ns ps w % p) = t2 at *
  generalize hA : (ps.map fun a => nD (at0 ns a)) = t9 at *
  generalize nD p = t11 at *
  generalize nD r = t12 at *
  generalize nD w = ww at *
  simp [var, hr, h1]
theorem ixl2 {a b : D} : oidx (.tup [a, b]) (.int (-1)) = .ok b := rfl
theorem ixl3 {a b c : D} : oidx (.tup [a, b, c]) (.int (-1)) = .ok c := rfl
theorem deed_word_ok {w : Nat} (hw : w ≤ 1000) {ns : List Nat} (hL : Low w ns) {x : Deed} (hx : x.ok ns.length) : m_deed_word [x.d, nD w, .lst (ns.map nD)] = .ok (nD (x.val w ns)) := by
  have hp : 0 < 2 ^ w := Nat.two_pow_pos w
  have h3 := shl_nD (n := w) hw
  have h4 : osub (nD (2 ^ w)) (.int 1) = .ok (nD (2 ^ w - 1)) := nsub (b := 1) (by omega)
  have hE : ((2 ^ w : Nat) : Int) = 2 ^ w := by simp
  unfold m_deed_word
  rw [fn3]
  unfold b_deed_word
  cases x with
  | zero =>
    have z : oin (.str "zero") (.tup [.str "zero", .str "ones"]) = .ok (.bl true) := rfl
    simp [var, Deed.d, ixt0, str_eq, h3, h4, Deed.val, nD_0, z]
  | ones =>
    have z : oin (.str "ones") (.tup [.str "zero", .str "ones"]) = .ok (.bl true) := rfl
    simp [var, Deed.d, ixt0, str_eq, h3, h4, Deed.val, z]
  | inv a =>
    have z : oin (.str "not") (.tup [.str "zero", .str "ones"]) = .ok (.bl false) := rfl
    have q1 := bits_at (bs := ns) hx
    have l1 := at0_low hL a
    have q2 := nsub (a := 2 ^ w - 1) (b := at0 ns a) (by omega)
    simp [var, Deed.d, ixt0, ixt1, ixl2, str_eq, h3, h4, Deed.val, q1, q2, z]
  | and a b =>
    have z : oin (.str "and") (.tup [.str "zero", .str "ones"]) = .ok (.bl false) := rfl
    have q1 := bits_at (bs := ns) hx.1
    have q2 := bits_at (bs := ns) hx.2
    simp [var, Deed.d, ixt0, ixt1, ixl3, str_eq, h3, h4, Deed.val, q1, q2, nand, z]
  | or a b =>
    have z : oin (.str "or") (.tup [.str "zero", .str "ones"]) = .ok (.bl false) := rfl
    have q1 := bits_at (bs := ns) hx.1
    have q2 := bits_at (bs := ns) hx.2
    simp [var, Deed.d, ixt0, ixt1, ixl3, str_eq, h3, h4, Deed.val, q1, q2, nor, z]
  | xor a b =>
    have z : oin (.str "xor") (.tup [.str "zero", .str "ones"]) = .ok (.bl false) := rfl
    have q1 := bits_at (bs := ns) hx.1
    have q2 := bits_at (bs := ns) hx.2
    simp [var, Deed.d, ixt0, ixt1, ixl3, str_eq, h3, h4, Deed.val, q1, q2, nxor, z]
  | shift a =>
    have z : oin (.str "shift") (.tup [.str "zero", .str "ones"]) = .ok (.bl false) := rfl
    have q1 := bits_at (bs := ns) hx
    have q2 : oadd (nD (at0 ns a)) (nD (at0 ns a)) = .ok (.int ((2 * at0 ns a : Nat) : Int)) := by
      rw [nadd, ← Nat.two_mul]
      rfl
    have q3 : oand (.int ((2 * at0 ns a : Nat) : Int)) (nD (2 ^ w - 1)) = .ok (nD (2 * at0 ns a % 2 ^ w)) := by
      rw [n_mask, ← hE, ← Int.natCast_emod]
      rfl
    generalize ((2 * at0 ns a : Nat) : Int) = v at *
    simp [var, Deed.d, ixt0, ixt1, ixl2, str_eq, h3, h4, Deed.val, q1, q2, q3, z]
  | minus a =>
    have z : oin (.str "minus") (.tup [.str "zero", .str "ones"]) = .ok (.bl false) := rfl
    have q1 := bits_at (bs := ns) hx
    have q2 : oneg (nD (at0 ns a)) = .ok (.int ((0 : Nat) - (at0 ns a : Int))) := by
      unfold nD
      rw [oneg_i]
      congr 2
      omega
    have q3 : oand (.int ((0 : Nat) - (at0 ns a : Int))) (nD (2 ^ w - 1)) = .ok (nD ((0 + (2 ^ w - at0 ns a)) % 2 ^ w)) := by
      rw [n_mask, ← hE, sub_mod (at0_low hL a)]
      rfl
    generalize (((0 : Nat) : Int) - (at0 ns a : Int)) = v at *
    show _ = Res.ok (nD ((0 + (2 ^ w - at0 ns a)) % 2 ^ w))
    generalize nD ((0 + (2 ^ w - at0 ns a)) % 2 ^ w) = t at *
    simp [var, Deed.d, ixt0, ixt1, ixl2, str_eq, h3, h4, q1, q2, q3, z]
  | add a b =>
    have z : oin (.str "add") (.tup [.str "zero", .str "ones"]) = .ok (.bl false) := rfl
    have q1 := bits_at (bs := ns) hx.1
    have q2 := bits_at (bs := ns) hx.2
    have q3 : oadd (nD (at0 ns a)) (nD (at0 ns b)) = .ok (.int ((at0 ns a + at0 ns b : Nat) : Int)) := nadd _ _
    have q4 : oand (.int ((at0 ns a + at0 ns b : Nat) : Int)) (nD (2 ^ w - 1)) = .ok (nD ((at0 ns a + at0 ns b) % 2 ^ w)) := by
      rw [n_mask, ← hE, ← Int.natCast_emod]
      rfl
    generalize ((at0 ns a + at0 ns b : Nat) : Int) = v at *
    simp [var, Deed.d, ixt0, ixt1, ixl3, str_eq, h3, h4, Deed.val, q1, q2, q3, q4, z]
  | sub a b =>
    have z : oin (.str "sub") (.tup [.str "zero", .str "ones"]) = .ok (.bl false) := rfl
    have q1 := bits_at (bs := ns) hx.1
    have q2 := bits_at (bs := ns) hx.2
    have q3 : osub (nD (at0 ns a)) (nD (at0 ns b)) = .ok (.int ((at0 ns a : Int) - (at0 ns b : Int))) := rfl
    have q4 : oand (.int ((at0 ns a : Int) - (at0 ns b : Int))) (nD (2 ^ w - 1)) = .ok (nD ((at0 ns a + (2 ^ w - at0 ns b)) % 2 ^ w)) := by
      rw [n_mask, ← hE, sub_mod (at0_low hL b)]
      rfl
    generalize ((at0 ns a : Int) - (at0 ns b : Int)) = v at *
    simp [var, Deed.d, ixt0, ixt1, ixl3, str_eq, h3, h4, Deed.val, q1, q2, q3, q4, z]
  | count p r ps =>
    have hz : ps.length ≤ 1000 := by
      have := hx.2.2.2.1
      omega
    have q := counted_ok (ns := ns) (r := r) hw (p := p) (by
      have := hx.1
      omega) hz
    have q0 : oidx (Deed.count p r ps).d (.int 0) = .ok (.str "count") := ixt0
    have i1 : oidx (Deed.count p r ps).d (.int 1) = .ok (nD p) := ixt1
    have i2 : oidx (Deed.count p r ps).d (.int 2) = .ok (nD r) := ixt2
    have i3 : oidx (Deed.count p r ps).d (.int 3) = .ok (.tup (ps.map nD)) := ixt3
    have hc : ∀ a b c d e, lcE (iseq (bin oidx (var 0) (cst (.int 3)))) [7] (gnm 7) yes (bin oidx (var 2) (var 7)) [some (Deed.count p r ps).d, a, some (.lst (ns.map nD)), b, c, d, e, none] = .ok (.lst (ps.map fun a => nD (at0 ns a))) := fun a b c d e => by
      refine lc_mapI (k := nD) (by simp [var, i3]) (le_sz hz) fun y hy => ?_
      have h := bits_at (bs := ns) (hx.2.2.2.2 y hy)
      generalize nD (at0 ns y) = t at *
      generalize nD y = u at *
      generalize ns.map nD = NS at *
      generalize (Deed.count p r ps).d = X at *
      exact ⟨_, rfl, by simp only [wipe]; simp [var, h]⟩
    show _ = Res.ok (nD (cw ns p r ps w))
    generalize hA : (ps.map fun a => nD (at0 ns a)) = t9 at *
    generalize hT : ps.map nD = t10 at *
    generalize nD (cw ns p r ps w) = t at *
    generalize (Deed.count p r ps).d = X at *
    generalize ns.map nD = NS at *
    simp [var, q0, i1, i2, str_eq, h3, h4, q, hc]
end Py.U
namespace Py.U
open PySem
theorem number_ok (n : Nat) : m_is_number [nD n] = .ok (.bl true) := by
  have h := isint_ok n
  have h2 : oge (nD n) (.int 0) = .ok (.bl true) := by
    unfold nD
    rw [oge_ii, decide_eq_true (by omega)]
  unfold m_is_number
  rw [fn1]
  unfold b_is_number
  generalize nD n = N at *
  simp [var, h, h2]
theorem word_is {n w : Nat} (h : n < 2 ^ w) : m_is_word [nD n, nD w] = .ok (.bl true) := by
  have hb : Builtin.Int.intBits (n : Int) ≤ w := PySem.intBits_le_iff.mpr (by simpa using h)
  have h1 : bbits (nD n) = .ok (.int ((Builtin.Int.intBits (n : Int) : Nat) : Int)) := rfl
  have h2 : ole (.int ((Builtin.Int.intBits (n : Int) : Nat) : Int)) (nD w) = .ok (.bl true) := by
    unfold nD
    rw [ole_ii, decide_eq_true (by omega)]
  have h3 := number_ok n
  unfold m_is_word
  rw [fn2]
  unfold b_is_word
  generalize ((Builtin.Int.intBits (n : Int) : Nat) : Int) = q at *
  generalize nD n = N at *
  generalize nD w = M at *
  simp [var, h1, h2, h3]
def SeqN (W : D) (ns : List Nat) : Prop := W = .lst (ns.map nD) ∨ W = .tup (ns.map nD)
theorem SeqN.tuple {W : D} {ns : List Nat} (h : SeqN W ns) : m_as_tuple [W] = .ok (.tup (ns.map nD)) := by
  unfold m_as_tuple
  rw [fn1]
  unfold b_as_tuple
  rcases h with rfl | rfl
  · have q : oisi CS [.lst, .tup] (.lst (ns.map nD)) = .ok (.bl true) := rfl
    simp [var, q]
  · have q : oisi CS [.lst, .tup] (.tup (ns.map nD)) = .ok (.bl true) := rfl
    simp [var, q]
theorem SeqN.list {W : D} {ns : List Nat} (h : SeqN W ns) : blist W = .ok (.lst (ns.map nD)) := by
  rcases h with rfl | rfl <;> simp
theorem words_ok {W : D} {ns : List Nat} {w : Nat} (h : SeqN W ns) (hL : Low w ns) (hz : ns.length ≤ 1000) : m_are_words [W, nD w, nD ns.length, nD ns.length] = .ok (.bl true) := by
  have ht := h.tuple
  have hl : ∀ a b c o, lcE (iseq (var 4)) [5] (gnm 5) yes (call m_is_word (argC (var 5) (argC (var 1) argN))) [a, some (nD w), b, c, some (.tup (ns.map nD)), o] = .ok (.lst (ns.map fun _ => .bl true)) := fun a b c o => by
    refine lc_mapI (k := nD) (by simp [var]) (le_sz hz) fun n hn => ?_
    have q := word_is (hL n hn)
    generalize nD n = N at *
    generalize nD w = M at *
    exact ⟨_, rfl, by simp only [wipe]; simp [var, q]⟩
  have hb : ball (.lst (ns.map fun _ => .bl true)) = .ok (.bl true) := by
    have := ball_bools (ns.map fun _ => true)
    rw [List.map_map] at this
    refine this.trans ?_
    rw [show (ns.map fun _ => true).all id = true by simp]
  have hN : oisN (.tup (ns.map nD)) = .ok (.bl false) := rfl
  have h1 : blen (.tup (ns.map nD)) = .ok (nD ns.length) := by
    rw [blen_t, List.length_map]
    rfl
  have h2 : ole (nD ns.length) (nD ns.length) = .ok (.bl true) := by
    unfold nD
    rw [ole_ii, decide_eq_true (by omega)]
  unfold m_are_words
  rw [fn4]
  unfold b_are_words
  generalize D.lst (ns.map fun _ => .bl true) = Z at *
  generalize hT : D.tup (ns.map nD) = T at *
  generalize nD ns.length = M at *
  generalize nD w = N at *
  simp [var, ht, hN, h1, h2, hl, hb]
def awB : SM := app 3 (callI m_deed_word (argC (var 4) (argC (var 1) (argC (var 3) argN))))
theorem all_loop {w n : Nat} (hw : w ≤ 1000) {bs : List Nat} {xs : List Deed} (hb : Low w bs) (hl : bs.length = n) (hr : Row n xs) (hz : n + xs.length ≤ 1000) {R W0 : D} :
    ∃ o, forL (forB (gnm 4) awB) (xs.map Deed.d) [some R, some (nD w), some W0, some (.lst (bs.map nD)), none] = .ok (.next [some R, some (nD w), some W0, some (.lst ((vals w bs xs).map nD)), o]) := by
  have q := forL_inv (b := forB (gnm 4) awB) (xs := xs.map Deed.d) (e := [some R, some (nD w), some W0, some (.lst (bs.map nD)), none])
    (fun k e => ∃ o, e = [some R, some (nD w), some W0, some (.lst ((vals w bs (xs.take k)).map nD)), o]) 0 ⟨none, rfl⟩ (by
      rintro k e hk ⟨o, rfl⟩
      have hk' : k < xs.length := by simpa using hk
      have ht : xs.take (k + 1) = xs.take k ++ [xs[k]] := by
        rw [List.take_add_one]
        simp [hk']
      have hlen : (vals w bs (xs.take k)).length = n + k := by
        rw [vals_len, List.length_take, hl]
        omega
      have hx := hr k hk'
      rw [← hlen] at hx
      have q1 := deed_word_ok hw (vals_low (xs.take k) hb) hx
      rw [Nat.zero_add, ht, vals_snoc, List.getElem_map, List.map_append, List.map_singleton]
      have z : ((vals w bs (xs.take k)).map nD).length < SZ := by
        rw [List.length_map, hlen]
        exact Nat.lt_trans (show n + k < 1001 by omega) (by decide)
      have him : imm (nD (xs[k].val w (vals w bs (xs.take k)))) = true := rfl
      refine ⟨[some R, some (nD w), some W0, some (.lst ((vals w bs (xs.take k)).map nD ++ [nD (xs[k].val w (vals w bs (xs.take k)))])), some xs[k].d], ?_, _, rfl⟩
      generalize nD (xs[k].val w (vals w bs (xs.take k))) = v at *
      generalize (vals w bs (xs.take k)).map nD = V at *
      generalize hX : xs[k].d = X at *
      generalize nD w = N at *
      simp [awB, var, callI, q1, him, z])
  obtain ⟨e', h1, o, rfl⟩ := q
  rw [List.length_map, Nat.zero_add, List.take_length] at h1
  exact ⟨o, h1⟩
theorem all_words_ok {w n out : Nat} (hw : w ≤ 1000) {bs : List Nat} {xs : List Deed} {W : D} (hW : SeqN W bs) (hb : Low w bs) (hl : bs.length = n) (hr : Row n xs) (hz : n + xs.length ≤ 1000) : m_Row_all_words [rowD n xs out, nD w, W] = .ok (.tup ((vals w bs xs).map nD)) := by
  have h1 := number_ok w
  have h2 := words_ok hW hb (by omega)
  rw [hl] at h2
  have h3 := row_inputs n xs out
  have h4 := row_deeds n xs out
  have h5 := hW.list
  obtain ⟨o, h6⟩ := all_loop hw hb hl hr hz (R := rowD n xs out) (W0 := W)
  unfold m_Row_all_words
  rw [fn3]
  show done (seq (Py.ite (notT (tst (call m_is_number (argC (var 1) argN)))) (rais "InvalidNumber" ["value"] (argC (var 1) argN)) skip) (seq (Py.ite (notT (tst (call m_are_words (argC (var 2) (argC (var 1) (argC (un (oattr ["Row"] "inputs") (var 0)) (argC (un (oattr ["Row"] "inputs") (var 0)) argN))))))) (rais "InvalidWords" ["value"] (argC (var 2) argN)) skip)
    (seq (asg (gnm 3) (un blist (var 2))) (seq (for_ (iseq (un (oattr ["Row"] "deeds") (var 0))) (gnm 4) awB) (ret (un btuple (var 3)))))) [some (rowD n xs out), some (nD w), some W, none, none]) = _
  generalize rowD n xs out = R at *
  generalize (vals w bs xs).map nD = V at *
  generalize bs.map nD = B at *
  generalize nD w = N at *
  generalize nD n = M at *
  simp [var, h1, h2, h3, h4, h5, h6]
theorem callM_row {n out : Nat} {xs : List Deed} {m : String} {f : List D → Res D} {a : EM} {am : AM} {e : Env} (h : a e = .ok (rowD n xs out)) (hm : m ≠ "inputs" ∧ m ≠ "deeds" ∧ m ≠ "out" := by decide) : callM "Row" m f a am e = (am e >>= fun ds => f (rowD n xs out :: ds)) := by
  unfold callM
  rw [h, bind_ok]
  unfold rowD
  dsimp only
  rw [if_pos]
  refine ⟨rfl, ?_⟩
  obtain ⟨h1, h2, h3⟩ := hm
  have e1 : (m == "inputs") = false := by simpa using h1
  have e2 : (m == "deeds") = false := by simpa using h2
  have e3 : (m == "out") = false := by simpa using h3
  simp [List.lookup, e1, e2, e3]
theorem cut_take {α : Type} (xs : List α) {k : Nat} (h : k ≤ xs.length) : cut xs none (some (k : Int)) = xs.take k := by
  unfold cut
  have e0 : HT.sIx xs.length 0 none = 0 := rfl
  have e1 : HT.sIx xs.length xs.length (some (k : Int)) = k := by rw [HT.sIx_nat, Nat.min_eq_left h]
  rw [e0, e1, List.drop_zero, Nat.sub_zero]
theorem vals_pre (w : Nat) (xs : List Deed) : ∀ bs : List Nat, ∃ t, vals w bs xs = bs ++ t := by
  induction xs with
  | nil => intro bs; exact ⟨[], by simp [vals]⟩
  | cons x xs ih =>
    intro bs
    obtain ⟨t, h⟩ := ih (bs ++ [x.val w bs])
    refine ⟨[x.val w bs] ++ t, ?_⟩
    have e : vals w bs (x :: xs) = vals w (bs ++ [x.val w bs]) xs := rfl
    rw [e, h, List.append_assoc]
/-! ### letters drawn -/
theorem rep_one (w : Int) (k : Nat) (h : k ≤ 1000) : olrep (.lst [.int w]) (.int (k : Int)) = .ok (.lst ((List.replicate k w).map D.int)) := by
  have e0 : olrep (.lst [.int w]) (.int (k : Int)) = .ok (.lst (List.replicate (k : Int).toNat [.int w]).flatten) := if_pos ⟨by simp, by simpa using h⟩
  rw [e0, Int.toNat_natCast]
  have e : ∀ n : Nat, (List.replicate n [D.int w]).flatten = (List.replicate n w).map D.int := fun n => by
    induction n with
    | zero => rfl
    | succ n ih => simp [List.replicate_succ, ih]
  rw [e]
theorem row_loop2 {n : Nat} {xs : List Deed} (hr : Row n xs) {S I O T T2 : D} (hI : I = nD n) : ∃ e', forL (forB (gtup [(gnm 5), (gnm 6)]) (Py.ite (notT (tst (call m_is_deed (argC (var 6) (argC (bin oadd (var 1) (var 5)) argN))))) (rais "InvalidRow" ["part", "place"] (argC (cst (.str "deeds")) (argC (var 5) argN))) skip)) (enumL 0 (xs.map Deed.d)) [some S, some I, some T2, some O, some T, none, none] = .ok (.next e') ∧
    ∃ o5 o6, e' = [some S, some I, some T2, some O, some T, o5, o6] := by
  refine forL_inv (fun k e => ∃ o5 o6, e = [some S, some I, some T2, some O, some T, o5, o6]) 0 ⟨none, none, rfl⟩ ?_
  rintro k e hk ⟨o5, o6, rfl⟩
  have hk2 : k < xs.length := by
    rw [enum_len, List.length_map] at hk
    exact hk
  have q := is_deed_ok (hr k hk2)
  have q2 : oadd I (.int (k : Int)) = .ok (nD (n + k)) := by
    rw [hI]
    exact nadd n k
  rw [enum_at hk (by simpa using hk2), List.getElem_map, Nat.zero_add]
  generalize nD (n + k) = Z at *
  generalize hX : xs[k].d = X at *
  generalize (k : Int) = z at *
  exact ⟨[some S, some I, some T2, some O, some T, some (.int z), some X], by simp [var, gtup, gtupL, q, q2], _, _, rfl⟩
theorem row_made2 {n out : Nat} {xs : List Deed} (h1 : 1 ≤ n) (h3 : n ≤ 3) (hr : Row n xs) (hz : xs.length ≤ 1000) (ho : out < n + xs.length) : m_Row [nD n, .lst (xs.map Deed.d), nD out] = .ok (rowD n xs out) := by
  have q1 := inputs_ok h1 h3
  have q2 : m_as_tuple [.lst (xs.map Deed.d)] = .ok (.tup (xs.map Deed.d)) := by
    have h : oisi CS [.lst, .tup] (.lst (xs.map Deed.d)) = .ok (.bl true) := rfl
    unfold m_as_tuple
    rw [fn1]
    unfold b_as_tuple
    generalize xs.map Deed.d = Z at *
    simp [var, h]
  have q3 : oisN (.tup (xs.map Deed.d)) = .ok (.bl false) := rfl
  obtain ⟨e', q4, o5, o6, rfl⟩ := row_loop2 (S := .ins "Row" []) (O := nD out) (T := .tup (xs.map Deed.d)) (T2 := .lst (xs.map Deed.d)) hr (I := nD n) rfl
  have q5 := is_below_ok out (n + xs.length)
  rw [decide_eq_true ho] at q5
  have q6 : oadd (nD n) (.int ((xs.map Deed.d).length : Int)) = .ok (nD (n + xs.length)) := by
    rw [List.length_map]
    exact nadd n xs.length
  have q7 : ienum (var 4) [some (.ins "Row" []), some (nD n), some (.lst (xs.map Deed.d)), some (nD out), some (.tup (xs.map Deed.d)), none, none] = .ok (enumL 0 (xs.map Deed.d)) := rfl
  have key : b_Row_init [some (.ins "Row" []), some (nD n), some (.lst (xs.map Deed.d)), some (nD out), none, none, none] = .ok (.next [some (rowD n xs out), some (nD n), some (.lst (xs.map Deed.d)), some (nD out), some (.tup (xs.map Deed.d)), o5, o6]) := by
    unfold b_Row_init rowD
    generalize xs.map Deed.d = Z at *
    generalize nD (n + xs.length) = M at *
    generalize nD n = N at *
    generalize nD out = U at *
    simp [var, q1, q2, q3, q4, q5, q6, q7, setF, putF]
  exact made_eq rfl key
theorem row_write_ok {w n out : Nat} (hw : w ≤ 1000) {bs : List Nat} {xs : List Deed} {W : D} (hW : SeqN W bs) (hb : Low w bs) (hl : bs.length = n) (hr : Row n xs) (hz : n + xs.length ≤ 1000) (ho : out < n + xs.length) : m_Row_write [rowD n xs out, nD w, W] = .ok (nD (at0 (vals w bs xs) out)) := by
  have q1 := all_words_ok (out := out) hw hW hb hl hr hz
  have q2 := callM_row (n := n) (out := out) (xs := xs) (m := "all_words") (f := m_Row_all_words) (a := var 0) (am := (argC (var 1) (argC (var 2) argN))) (e := [some (rowD n xs out), some (nD w), some W]) rfl
  have q3 : oattr ["Row"] "out" (rowD n xs out) = .ok (nD out) := rfl
  have q4 : oidx (.tup ((vals w bs xs).map nD)) (nD out) = .ok (nD (at0 (vals w bs xs) out)) := bits_at (bs := vals w bs xs) (by rw [vals_len, hl]; exact ho)
  unfold m_Row_write
  rw [fn3]
  unfold b_Row_write
  generalize (vals w bs xs).map nD = V at *
  generalize nD (at0 (vals w bs xs) out) = t1 at *
  generalize rowD n xs out = R at *
  generalize nD out = t2 at *
  generalize nD w = t3 at *
  simp [var, q1, q2, q3, q4]
theorem chk_pass {c : TM} {r b : SM} {e : Env} (h : c e = .ok false) : seq (Py.ite c b skip) r e = r e := by
  refine seq_next ?_
  unfold Py.ite
  rw [h, bind_ok]
  rfl
theorem asg_pass {i : Nat} {m : EM} {r : SM} {e : Env} {d : D} (h : m e = .ok d) : seq (asg (gnm i) m) r e = r (e.set i (some d)) := by
  refine seq_next ?_
  rw [asg_eq, h]
  rfl
theorem for_pass {it : IM} {g : GM} {b r : SM} {e e' : Env} {xs : List D} (h : it e = .ok xs) (h2 : forL (forB g b) xs e = .ok (.next e')) : seq (for_ it g b) r e = r e' := by
  refine seq_next ?_
  rw [for_eq, h]
  exact h2
/-! ### deeds drawn -/
theorem ix7' {a b c d e f g : D} : oidx (.lst [a, b, c, d, e, f, g]) (.int 0) = .ok a ∧ oidx (.lst [a, b, c, d, e, f, g]) (.int 1) = .ok b ∧ oidx (.lst [a, b, c, d, e, f, g]) (.int 2) = .ok c ∧ oidx (.lst [a, b, c, d, e, f, g]) (.int 3) = .ok d ∧ oidx (.lst [a, b, c, d, e, f, g]) (.int 4) = .ok e ∧ oidx (.lst [a, b, c, d, e, f, g]) (.int 5) = .ok f ∧ oidx (.lst [a, b, c, d, e, f, g]) (.int 6) = .ok g := ⟨rfl, rfl, rfl, rfl, rfl, rfl, rfl⟩
theorem deed_ok {n : Nat} (hn : 0 < n) (d0 d1 d2 d3 d4 d5 d6 : Int) (h0 : 0 ≤ d0 ∧ d0 < 14) (h3 : 0 ≤ d3 ∧ d3 < 3) (h6 : 0 ≤ d6 ∧ d6 < 4) :
    ∃ x : Deed, x.ok n ∧ m_law_deed [.lst [.int d0, .int d1, .int d2, .int d3, .int d4, .int d5, .int d6], .int (n : Int)] = .ok x.d := by
  obtain ⟨a, ha, ea⟩ := mod_nat d1 hn
  obtain ⟨b, hb, eb⟩ := mod_nat d2 hn
  obtain ⟨c, hc, ec⟩ := mod_nat d4 hn
  have hn0 : (0 : Int) < (n : Int) := by omega
  have m1 : omod (.int d1) (.int (n : Int)) = .ok (nD a) := by rw [omod_ii hn0, ea]; rfl
  have m2 : omod (.int d2) (.int (n : Int)) = .ok (nD b) := by rw [omod_ii hn0, eb]; rfl
  have m4 : omod (.int d4) (.int (n : Int)) = .ok (nD c) := by rw [omod_ii hn0, ec]; rfl
  obtain ⟨i0, i1, i2, i3, i4, i5, i6⟩ := @ix7' (.int d0) (.int d1) (.int d2) (.int d3) (.int d4) (.int d5) (.int d6)
  generalize hL : D.lst [.int d0, .int d1, .int d2, .int d3, .int d4, .int d5, .int d6] = L at *
  generalize (n : Int) = N at *
  unfold m_law_deed
  rw [fn2]
  unfold b__law_deed
  by_cases g : 10 ≤ d0
  · have q3 : d3 = 0 ∨ d3 = 1 ∨ d3 = 2 := by omega
    have q6 : d6 = 0 ∨ d6 = 1 ∨ d6 = 2 ∨ d6 = 3 := by omega
    have key : ∀ p : Nat, (p = 2 ∨ p = 3 ∨ p = 5) → oidx (.lst [.int 2, .int 3, .int 5]) (.int d3) = .ok (nD p) → ∃ x : Deed, x.ok n ∧ done (b__law_deed [some L, some (.int N), none, none, none, none, none]) = .ok x.d := fun p hp hi => by
      obtain ⟨r, hr, er⟩ := mod_nat d5 (n := p) (by omega)
      have m5 : omod (.int d5) (nD p) = .ok (nD r) := by
        unfold nD
        rw [omod_ii (by omega), er]
      have fin : ∀ ps : List Nat, oslc (.tup [nD a, nD b, nD a, nD c]) none (some (1 + d6)) = .ok (.tup (ps.map nD)) → 1 ≤ ps.length → ps.length ≤ 4 → (∀ a ∈ ps, a < n) → ∃ x : Deed, x.ok n ∧ done (b__law_deed [some L, some (.int N), none, none, none, none, none]) = .ok x.d := fun ps hs l1 l4 hm => by
        refine ⟨.count p r ps, ⟨hp, hr, l1, l4, hm⟩, ?_⟩
        unfold b__law_deed
        simp [var, i0, i1, i2, i3, i4, i5, i6, m1, m2, m4, m5, g, hi, slc_eq, bnd_none, bnd_some, hs, Deed.d]
      rcases q6 with rfl | rfl | rfl | rfl
      · exact fin [a] rfl (by simp) (by simp) (by simp [ha])
      · exact fin [a, b] rfl (by simp) (by simp) (by simp [ha, hb])
      · exact fin [a, b, a] rfl (by simp) (by simp) (by simp [ha, hb])
      · exact fin [a, b, a, c] rfl (by simp) (by simp) (by simp [ha, hb, hc])
    rcases q3 with rfl | rfl | rfl
    · exact key 2 (by simp) rfl
    · exact key 3 (by simp) rfl
    · exact key 5 (by simp) rfl
  · have key : ∀ (s : String) (t : Bool), oidx (.lst [.str "zero", .str "ones", .str "not", .str "and", .str "or", .str "xor", .str "shift", .str "minus", .str "add", .str "sub"]) (.int d0) = .ok (.str s) →
        oin (.int d0) (.lst [.int 2, .int 6, .int 7]) = .ok (.bl t) → done (b__law_deed [some L, some (.int N), none, none, none, none, none]) = .ok (if d0 < 2 then .tup [.str s] else if t then .tup [.str s, nD a] else .tup [.str s, nD a, nD b]) := fun s t k2 k3 => by
      unfold b__law_deed
      by_cases w : d0 < 2
      · simp [var, i0, i1, i2, m1, m2, g, k2, w]
      · cases t <;> simp [var, i0, i1, i2, m1, m2, g, k2, k3, w]
    have q0 : d0 = 0 ∨ d0 = 1 ∨ d0 = 2 ∨ d0 = 3 ∨ d0 = 4 ∨ d0 = 5 ∨ d0 = 6 ∨ d0 = 7 ∨ d0 = 8 ∨ d0 = 9 := by omega
    clear hL
    rcases q0 with rfl | rfl | rfl | rfl | rfl | rfl | rfl | rfl | rfl | rfl
    · exact ⟨.zero, trivial, key "zero" false rfl rfl⟩
    · exact ⟨.ones, trivial, key "ones" false rfl rfl⟩
    · exact ⟨.inv a, ha, key "not" true rfl rfl⟩
    · exact ⟨.and a b, ⟨ha, hb⟩, key "and" false rfl rfl⟩
    · exact ⟨.or a b, ⟨ha, hb⟩, key "or" false rfl rfl⟩
    · exact ⟨.xor a b, ⟨ha, hb⟩, key "xor" false rfl rfl⟩
    · exact ⟨.shift a, ha, key "shift" true rfl rfl⟩
    · exact ⟨.minus a, ha, key "minus" true rfl rfl⟩
    · exact ⟨.add a b, ⟨ha, hb⟩, key "add" false rfl rfl⟩
    · exact ⟨.sub a b, ⟨ha, hb⟩, key "sub" false rfl rfl⟩
end Py.U
namespace Py.U
open PySem
def gd : D → Bool
  | .ins c _ => c == "Row"
  | .dic _ _ => false
  | _ => true
def belowD (t : Nat) : D → Bool
  | .int z => decide (0 ≤ z) && decide (z < (t : Int))
  | _ => false
theorem isi_any {ts : List Ty} {d : D} (h : gd d = true) (ht : (ts.all fun t => inCs CS t && decide (t ≠ .non)) = true) : oisi CS ts d = .ok (.bl (ts.any fun t => isI t d)) := by
  have h1 : inCs CS (tyOf d) = true := by
    cases d with
    | ins c fs =>
      have hc : c = "Row" := by simpa [gd] using h
      subst hc
      rfl
    | dic t kvs => cases h
    | _ => rfl
  unfold oisi
  rw [h1, Bool.true_and]
  exact if_pos ht
theorem isint_any {d : D} (h : gd d = true) : m_is_integer [d] = .ok (.bl (isI .int d && !isI .bl d)) := by
  have e1 := isi_any (ts := [.int]) h rfl
  have e2 := isi_any (ts := [.bl]) h rfl
  unfold m_is_integer
  rw [fn1]
  unfold b_is_integer
  simp only [List.any_cons, List.any_nil, Bool.or_false] at e1 e2
  cases hi : isI .int d <;> simp [var, e1, e2, hi]
theorem not_int {d : D} (h : (isI .int d && !isI .bl d) = true) : ∃ z, d = .int z := by
  cases d <;> first | exact ⟨_, rfl⟩ | simp [isI] at h
theorem below_not {d : D} (h : (isI .int d && !isI .bl d) = false) (t : Nat) : belowD t d = false := by
  cases d <;> first | rfl | simp [isI] at h
theorem below_any {d : D} (h : gd d = true) (t : Nat) : m_is_below [d, nD t] = .ok (.bl (belowD t d)) := by
  have e := isint_any h
  unfold m_is_below
  rw [fn2]
  unfold b_is_below
  unfold nD
  cases hi : (isI .int d && !isI .bl d) with
  | true =>
    obtain ⟨z, rfl⟩ := not_int hi
    rw [hi] at e
    unfold belowD
    generalize (t : Int) = T at *
    by_cases h0 : 0 ≤ z <;> simp [var, e, h0]
  | false =>
    rw [hi] at e
    rw [below_not hi]
    generalize (t : Int) = T at *
    simp [var, e]
theorem range_any {d : D} (h : gd d = true) (t : Nat) : m_law_in_range [d, .int 0, .int ((t : Int) - 1)] = .ok (.bl (belowD t d)) := by
  have e1 := isi_any (ts := [.int]) h rfl
  have e2 := isi_any (ts := [.bl]) h rfl
  simp only [List.any_cons, List.any_nil, Bool.or_false] at e1 e2
  unfold m_law_in_range
  rw [fn3]
  unfold b__law_in_range
  cases hi : (isI .int d && !isI .bl d) with
  | true =>
    obtain ⟨z, rfl⟩ := not_int hi
    rw [show belowD t (.int z) = (decide (0 ≤ z) && decide (z < (t : Int))) from rfl]
    have hz : decide (z < (t : Int)) = decide (z ≤ (t : Int) - 1) := decide_eq_decide.mpr (by omega)
    rw [hz]
    generalize (t : Int) = T at *
    have e3 : isI .int (.int z) = true := rfl
    have e4 : isI .bl (.int z) = false := rfl
    rw [e3] at e1
    rw [e4] at e2
    by_cases h0 : 0 ≤ z <;> simp [var, e1, e2, h0]
  | false =>
    rw [below_not hi]
    generalize (t : Int) = T at *
    rw [Bool.and_eq_false_iff] at hi
    cases h1 : isI .int d with
    | false =>
      rw [h1] at e1
      simp [var, e1]
    | true =>
      have h2 : isI .bl d = true := by
        rcases hi with hi | hi
        · rw [h1] at hi
          cases hi
        · simpa using hi
      rw [h1] at e1
      rw [h2] at e2
      simp [var, e1, e2]
/-! ### errors -/
/-! ### the first that is not so -/
def firstF (p : Nat → Bool) (k : Nat) : Nat → Option Nat
  | 0 => none
  | m + 1 => if p k then firstF p (k + 1) m else some k
theorem forL_first {b : D → Env → Res Fl} {I : Env → Prop} {p : Nat → Bool} {R : Nat → Res Fl} {v : Nat → D} (hR : ∀ j, (∃ d, R j = .ok (.ret d)) ∨ ∃ c fs, R j = .exc c fs) : ∀ (m k : Nat) (e : Env), I e →
    (∀ i e, k ≤ i → i < k + m → I e → (p i = true → ∃ e', b (v i) e = .ok (.next e') ∧ I e') ∧ (p i = false → b (v i) e = R i)) →
    (∀ j, firstF p k m = some j → forL b ((List.range' k m).map v) e = R j) ∧ (firstF p k m = none → ∃ e', forL b ((List.range' k m).map v) e = .ok (.next e') ∧ I e')
  | 0, k, e, hI, _ => ⟨fun j h => (by cases h), fun _ => ⟨e, rfl, hI⟩⟩
  | m + 1, k, e, hI, hb => by
    obtain ⟨h1, h2⟩ := hb k e (Nat.le_refl _) (by omega) hI
    rw [List.range'_succ, List.map_cons]
    unfold firstF
    cases hp : p k with
    | true =>
      obtain ⟨e', q, hI'⟩ := h1 hp
      have ih := forL_first hR m (k + 1) e' hI' fun i e h3 h4 h5 => hb i e (by omega) (by omega) h5
      have e2 : forL b (v k :: (List.range' (k + 1) m).map v) e = forL b ((List.range' (k + 1) m).map v) e' := by
        rw [forL]
        rw [q] <;> rfl
      rw [if_pos rfl, e2]
      exact ih
    | false =>
      have q := h2 hp
      have e2 : forL b (v k :: (List.range' (k + 1) m).map v) e = R k := by
        rw [forL]
        rw [q]
        rcases hR k with ⟨d, h⟩ | ⟨c, fs, h⟩ <;> rw [h]
      rw [if_neg (by simp), e2]
      exact ⟨fun j h => by
        have : k = j := by simpa using h
        rw [this], fun h => by cases h⟩
/-! ### inputs -/
def inD : D → Bool
  | .int z => decide (1 ≤ z) && decide (z ≤ 3)
  | _ => false
theorem in_not {d : D} (h : (isI .int d && !isI .bl d) = false) : inD d = false := by
  cases d <;> first | rfl | simp [isI] at h
theorem inputs_any {d : D} (h : gd d = true) : m_is_inputs [d] = .ok (.bl (inD d)) := by
  have e := isint_any h
  unfold m_is_inputs
  rw [fn1]
  unfold b_is_inputs
  cases hi : (isI .int d && !isI .bl d) with
  | true =>
    obtain ⟨z, rfl⟩ := not_int hi
    rw [hi] at e
    unfold inD
    by_cases h0 : 1 ≤ z <;> simp [var, e, h0]
  | false =>
    rw [hi] at e
    rw [in_not hi]
    simp [var, e]
theorem inrange_any {d : D} (h : gd d = true) : m_law_in_range [d, .int 1, .int 3] = .ok (.bl (inD d)) := by
  have e1 := isi_any (ts := [.int]) h rfl
  have e2 := isi_any (ts := [.bl]) h rfl
  simp only [List.any_cons, List.any_nil, Bool.or_false] at e1 e2
  unfold m_law_in_range
  rw [fn3]
  unfold b__law_in_range
  cases hi : (isI .int d && !isI .bl d) with
  | true =>
    obtain ⟨z, rfl⟩ := not_int hi
    unfold inD
    have e3 : isI .int (.int z) = true := rfl
    have e4 : isI .bl (.int z) = false := rfl
    rw [e3] at e1
    rw [e4] at e2
    by_cases h0 : 1 ≤ z <;> simp [var, e1, e2, h0]
  | false =>
    rw [in_not hi]
    rw [Bool.and_eq_false_iff] at hi
    cases h1 : isI .int d with
    | false =>
      rw [h1] at e1
      simp [var, e1]
    | true =>
      have h2 : isI .bl d = true := by
        rcases hi with hi | hi
        · rw [h1] at hi
          cases hi
        · simpa using hi
      rw [h1] at e1
      rw [h2] at e2
      simp [var, e1, e2]
theorem inD_nat {d : D} (h : inD d = true) : ∃ n : Nat, d = nD n ∧ 1 ≤ n ∧ n ≤ 3 := by
  cases d with
  | int z =>
    simp only [inD, Bool.and_eq_true, decide_eq_true_eq] at h
    refine ⟨z.toNat, ?_, by omega, by omega⟩
    unfold nD
    congr 1
    omega
  | _ => simp [inD] at h
/-! ### tables of any kind -/
def mems : D → Option (List D)
  | .lst xs => some xs
  | .tup xs => some xs
  | _ => none
theorem seq_any {v : D} (h : gd v = true) : oisi CS [.lst, .tup] v = .ok (.bl (mems v).isSome) := by
  have e := isi_any (ts := [.lst, .tup]) h rfl
  rw [e]
  cases v <;> rfl
theorem as_tuple_any {v : D} (h : gd v = true) : m_as_tuple [v] = .ok (match mems v with | some xs => .tup xs | none => .non) := by
  have e := seq_any h
  unfold m_as_tuple
  rw [fn1]
  unfold b_as_tuple
  cases hm : mems v with
  | none =>
    rw [hm] at e
    simp [var, e]
  | some xs =>
    rw [hm] at e
    have e2 : btuple v = .ok (.tup xs) := by
      cases v <;> simp [mems] at hm <;> subst hm <;> rfl
    simp [var, e, e2]
theorem mems_len {v : D} {xs : List D} (h : mems v = some xs) : blen v = .ok (.int (xs.length : Int)) := by
  cases v <;> simp [mems] at h <;> subst h <;> rfl
theorem mems_at {v : D} {xs : List D} (h : mems v = some xs) {k : Nat} (hk : k < xs.length) : oidx v (.int (k : Int)) = .ok (xs.getD k .non) := by
  cases v <;> simp [mems] at h <;> subst h
  · exact oidx_t (by simp [hk])
  · exact oidx_l (by simp [hk])
theorem tryE_exc {es : List String} {i : Nat} {b : SM} {h : String → List (String × D) → SM} {e : Env} {c : String} {fs : List (String × D)} {d : D} (h1 : b e = .exc c fs) (h2 : (es.contains c && decide (i < e.length)) = true) (h3 : h c fs (e.set i none) = .ok (.ret d)) : tryE es i b h e = .ok (.ret d) := by
  unfold tryE
  rw [h1]
  dsimp only
  rw [if_pos h2, h3]
@[simp] theorem done_exc (c : String) (fs : List (String × D)) : done (.exc c fs) = .exc c fs := rfl
theorem rais_1 {c f : String} {m : EM} {e : Env} {d : D} (h : m e = .ok d) : rais c [f] (argC m argN) e = .exc c [(f, d)] := by
  unfold rais
  simp [h]
theorem rais_2 {c f g : String} {m1 m2 : EM} {e : Env} {d1 d2 : D} (h1 : m1 e = .ok d1) (h2 : m2 e = .ok d2) : rais c [f, g] (argC m1 (argC m2 argN)) e = .exc c [(g, d2), (f, d1)] := by
  unfold rais
  simp [h1, h2]
theorem enum_of : ∀ (xs : List D) (k : Nat), enumL k xs = (List.range' k xs.length).map fun i => .tup [.int ((i : Nat) : Int), xs.getD (i - k) .non]
  | [], k => rfl
  | x :: xs, k => by
    rw [List.length_cons, List.range'_succ, List.map_cons, enumL, enum_of xs (k + 1), Nat.sub_self]
    congr 1
    apply List.map_congr_left
    intro i hi
    have h1 : k + 1 ≤ i := (List.mem_range'_1.mp hi).1
    have e : i - k = (i - (k + 1)) + 1 := by omega
    rw [e]
    rfl
theorem enum0 (xs : List D) : enumL 0 xs = (List.range' 0 xs.length).map fun i => .tup [.int ((i : Nat) : Int), xs.getD i .non] := enum_of xs 0
theorem made_exc {p n : Nat} {cls : String} {body : SM} {ds : List D} {c : String} {fs : List (String × D)} (hl : ds.length + 1 = p) (h : body ((some (.ins cls []) :: ds.map some) ++ List.replicate (n - p) none) = .exc c fs) : made p n cls body ds = .exc c fs := by
  unfold made
  rw [if_pos hl, h]
theorem tryE_ok {es : List String} {i : Nat} {b : SM} {h : String → List (String × D) → SM} {e e' : Env} (h1 : b e = .ok (.next e')) : tryE es i b h e = .ok (.next e') := by
  unfold tryE
  rw [h1]
theorem firstF_none {p : Nat → Bool} : ∀ {m k : Nat}, firstF p k m = none → ∀ i, k ≤ i → i < k + m → p i = true
  | 0, k, _, i, h1, h2 => by omega
  | m + 1, k, h, i, h1, h2 => by
    unfold firstF at h
    cases hp : p k with
    | true =>
      rw [hp, if_pos rfl] at h
      by_cases e : i = k
      · rw [e]
        exact hp
      · exact firstF_none h i (by omega) (by omega)
    | false =>
      rw [hp, if_neg (by simp)] at h
      cases h
theorem setL_ok {i : Nat} {j m : EM} {e : Env} {xs : List D} {d : D} {k : Nat} (h1 : var i e = .ok (.lst xs)) (h2 : m e = .ok d) (h3 : j e = .ok (.int (k : Int))) (hk : k < xs.length) : setL i j m e = .ok (.next (e.set i (some (.lst (xs.set k d))))) := by
  unfold setL
  rw [h1, bind_ok]
  dsimp only
  rw [h2, bind_ok, h3, bind_ok]
  dsimp only
  have := ixN_nat hk
  show (match L2.ixN xs.length (k : Int) with | some n => Res.ok (Fl.next (e.set i (some (.lst (xs.set n d))))) | none => Res.stuck) = _
  rw [this]
theorem getD_mem {xs : List D} {i : Nat} (h : i < xs.length) : xs.getD i .non ∈ xs := by
  rw [List.getD_eq_getElem?_getD, List.getElem?_eq_getElem h]
  exact List.getElem_mem h
theorem range_of (n : Nat) : (List.range n).map (fun i => D.int ((i : Nat) : Int)) = (List.range' 0 n).map fun i => D.int ((i : Nat) : Int) := by rw [List.range_eq_range']
theorem opow30 : opow (.int 10) (.int 30) = .ok (.int 1000000000000000000000000000000) := rfl
theorem oadd_tt {a b : List D} (h : a.length + b.length ≤ SZ) : oadd (.tup a) (.tup b) = .ok (.tup (a ++ b)) := if_pos h
/-! ### values that are alike themselves -/
def AL : Nat → D → Prop
  | 0, _ => False
  | k + 1, d => match d with
    | .tup xs => xs.length ≤ 1000 ∧ ∀ x ∈ xs, AL k x
    | .lst xs => xs.length ≤ 1000 ∧ ∀ x ∈ xs, AL k x
    | .ins _ _ => False
    | .dic _ _ => False
    | _ => True
theorem AL.gd {k : Nat} {d : D} (h : AL (k + 1) d) : gd d = true := by
  cases d with
  | ins c fs => exact (show False from h).elim
  | dic t kvs => exact (show False from h).elim
  | _ => rfl
def aL (f : List D → Res D) : SM := (for_ (irng1 (un blen (var 1))) (gnm 2) (Py.ite (notT (tst (call f (argC (bin oidx (var 0) (var 2)) (argC (bin oidx (var 1) (var 2)) argN))))) (ret (cst (.bl false))) skip))
theorem aL_ok {f : List D → Res D} {d : D} {xs : List D} (hd : d = .tup xs ∨ d = .lst xs) (hz : xs.length ≤ 1000) (h : ∀ x ∈ xs, f [x, x] = .ok (.bl true)) (o : Option D) : ∃ o', aL f [some d, some d, o] = .ok (.next [some d, some d, o']) := by
  have hl : blen d = .ok (.int (xs.length : Int)) := by
    rcases hd with rfl | rfl <;> simp
  have hi : ∀ k, (hk : k < xs.length) → oidx d (.int ((k : Nat) : Int)) = .ok xs[k] := fun k hk => by
    rcases hd with rfl | rfl
    · exact oidx_t (by simp [hk])
    · exact oidx_l (by simp [hk])
  clear hd
  obtain ⟨e', h1, o', h2⟩ := forR_inv (b := forB (gnm 2) (Py.ite (notT (tst (call f (argC (bin oidx (var 0) (var 2)) (argC (bin oidx (var 1) (var 2)) argN))))) (ret (cst (.bl false))) skip)) (n := xs.length) (e := [some d, some d, o])
    (fun _ e => ∃ o', e = [some d, some d, o']) ⟨o, rfl⟩ fun i e hi2 ⟨o1, he⟩ => by
      subst he
      have q := hi i hi2
      have q2 := h _ (List.getElem_mem hi2)
      generalize xs[i] = x at *
      generalize ((i : Nat) : Int) = I at *
      exact ⟨[some d, some d, some (.int I)], by simp [var, q, q2], _, rfl⟩
  subst h2
  refine ⟨o', ?_⟩
  unfold aL
  rw [for_eq, irng1_nat (n := xs.length) (by simp [var, hl]) (rng_lt hz), bind_ok]
  exact h1
def aB (f : List D → Res D) : SM := (seq (Py.ite (tst (un (oisi CS [.lst, .tup]) (var 1))) (seq (Py.ite (orT (notT (tst (un (oisi CS [.lst, .tup]) (var 0)))) (tst (bin Py.one (un (oisi CS [.lst]) (var 0)) (un (oisi CS [.lst]) (var 1))))) (ret (cst (.bl false))) skip)
  (seq (Py.ite (tst (bin Py.one (un blen (var 0)) (un blen (var 1)))) (ret (cst (.bl false))) skip)
  (seq (aL f)
  (ret (cst (.bl true)))))) skip)
  (seq (Py.ite (tst (un oisN (var 1))) (ret (un oisN (var 0))) skip)
  (seq (Py.ite (orT (tst (un (oisi CS [.bl]) (var 1))) (tst (un (oisi CS [.bl]) (var 0)))) (ret (andE (un (oisi CS [.bl]) (var 1)) (andE (un (oisi CS [.bl]) (var 0)) (bin oeq (var 0) (var 1))))) skip)
  (seq (Py.ite (tst (un (oisi CS [.str]) (var 1))) (ret (andE (un (oisi CS [.str]) (var 0)) (bin oeq (var 0) (var 1)))) skip)
  (ret (andE (un (oisi CS [.int]) (var 0)) (bin oeq (var 0) (var 1))))))))
theorem alike_succ (k : Nat) : m_law_alike (k + 1) = fn 2 3 (aB (m_law_alike k)) := rfl
theorem alike_refl : ∀ (k : Nat) (d : D), AL k d → m_law_alike k [d, d] = .ok (.bl true)
  | 0, _, h => h.elim
  | k + 1, d, h => by
    have g := h.gd
    have e1 := isi_any (ts := [.lst, .tup]) g rfl
    have e2 := isi_any (ts := [.lst]) g rfl
    have e4 := isi_any (ts := [.bl]) g rfl
    have e5 := isi_any (ts := [.str]) g rfl
    have e6 := isi_any (ts := [.int]) g rfl
    rw [alike_succ, fn2]
    have seqs : ∀ xs, (d = .tup xs ∨ d = .lst xs) → xs.length ≤ 1000 → (∀ x ∈ xs, AL k x) → done (aB (m_law_alike k) (some d :: some d :: List.replicate (3 - 2) none)) = .ok (.bl true) := fun xs hd hz ha => by
      obtain ⟨o', q⟩ := aL_ok hd hz (fun x hx => alike_refl k x (ha x hx)) none
      have hl : blen d = .ok (.int (xs.length : Int)) := by
        rcases hd with rfl | rfl <;> simp
      have t1 : oisi CS [.lst, .tup] d = .ok (.bl true) := by
        rcases hd with rfl | rfl <;> exact e1
      have t2 : ∃ b, oisi CS [.lst] d = .ok (.bl b) := ⟨_, e2⟩
      obtain ⟨b, t2⟩ := t2
      have t3 : Py.one (.bl b) (.bl b) = .ok (.bl false) := by cases b <;> rfl
      clear hd e1 e2 e4 e5 e6 g h
      unfold aB
      simp [var, t1, t2, t3, hl, q]
    cases d with
    | tup xs =>
      have h' : xs.length ≤ 1000 ∧ ∀ x ∈ xs, AL k x := h
      exact seqs xs (.inl rfl) h'.1 h'.2
    | lst xs =>
      have h' : xs.length ≤ 1000 ∧ ∀ x ∈ xs, AL k x := h
      exact seqs xs (.inr rfl) h'.1 h'.2
    | dic t kvs => exact (show False from h).elim
    | ins c fs => exact (show False from h).elim
    | non =>
      have n1 : oisN .non = .ok (.bl true) := rfl
      have n2 : oisi CS [.lst, .tup] .non = .ok (.bl false) := rfl
      unfold aB
      simp [var, n1, n2]
    | bl b =>
      have n1 : oisN (.bl b) = .ok (.bl false) := rfl
      have n2 : oisi CS [.lst, .tup] (.bl b) = .ok (.bl false) := rfl
      have n4 : oisi CS [.bl] (.bl b) = .ok (.bl true) := rfl
      have n5 : oeq (.bl b) (.bl b) = .ok (.bl true) := by cases b <;> rfl
      unfold aB
      simp [var, n1, n2, n4, n5]
    | int z =>
      have n1 : oisN (.int z) = .ok (.bl false) := rfl
      have n2 : oisi CS [.lst, .tup] (.int z) = .ok (.bl false) := rfl
      have n4 : oisi CS [.bl] (.int z) = .ok (.bl false) := rfl
      have n5 : oisi CS [.str] (.int z) = .ok (.bl false) := rfl
      have n6 : oisi CS [.int] (.int z) = .ok (.bl true) := rfl
      unfold aB
      simp [var, n1, n2, n4, n5, n6]
    | str s =>
      have n1 : oisN (.str s) = .ok (.bl false) := rfl
      have n2 : oisi CS [.lst, .tup] (.str s) = .ok (.bl false) := rfl
      have n4 : oisi CS [.bl] (.str s) = .ok (.bl false) := rfl
      have n5 : oisi CS [.str] (.str s) = .ok (.bl true) := rfl
      have n6 : oeq (.str s) (.str s) = .ok (.bl true) := by rw [str_eq]; simp
      unfold aB
      simp [var, n1, n2, n4, n5, n6]
theorem AL_mem {k : Nat} {v : D} {xs : List D} (h : AL (k + 2) v) (hm : mems v = some xs) : (∀ x ∈ xs, gd x = true) ∧ xs.length ≤ 1000 := by
  cases v <;> simp [mems] at hm <;> subst hm
  · have h' : _ ∧ ∀ x ∈ _, AL (k + 1) x := h
    exact ⟨fun x hx => (h'.2 x hx).gd, h'.1⟩
  · have h' : _ ∧ ∀ x ∈ _, AL (k + 1) x := h
    exact ⟨fun x hx => (h'.2 x hx).gd, h'.1⟩
/-! ### numbers and words -/
def numD : D → Bool
  | .int z => decide (0 ≤ z)
  | _ => false
def wordD (w : Nat) : D → Bool
  | .int z => decide (0 ≤ z) && decide (Builtin.Int.intBits z ≤ w)
  | _ => false
theorem num_not {d : D} (h : (isI .int d && !isI .bl d) = false) : numD d = false := by
  cases d <;> first | rfl | simp [isI] at h
theorem number_any {d : D} (h : gd d = true) : m_is_number [d] = .ok (.bl (numD d)) := by
  have e := isint_any h
  unfold m_is_number
  rw [fn1]
  unfold b_is_number
  cases hi : (isI .int d && !isI .bl d) with
  | true =>
    obtain ⟨z, rfl⟩ := not_int hi
    rw [hi] at e
    unfold numD
    by_cases h0 : 0 ≤ z <;> simp [var, e, h0]
  | false =>
    rw [hi] at e
    rw [num_not hi]
    simp [var, e]
theorem word_any {d : D} (h : gd d = true) (w : Nat) : m_is_word [d, nD w] = .ok (.bl (wordD w d)) := by
  have e := number_any h
  unfold m_is_word
  rw [fn2]
  unfold b_is_word nD
  cases d with
  | int z =>
    by_cases h0 : 0 ≤ z
    · have e1 : numD (.int z) = true := decide_eq_true h0
      rw [e1] at e
      have e2 : ole (.int ((Builtin.Int.intBits z : Nat) : Int)) (.int (w : Int)) = .ok (.bl (wordD w (.int z))) := by
        rw [ole_ii]
        show _ = Res.ok (D.bl (decide (0 ≤ z) && decide (Builtin.Int.intBits z ≤ w)))
        rw [decide_eq_true h0, Bool.true_and]
        congr 2
        exact decide_eq_decide.mpr (by omega)
      have e3 : bbits (.int z) = .ok (.int ((Builtin.Int.intBits z : Nat) : Int)) := rfl
      generalize wordD w (.int z) = B at *
      generalize ((Builtin.Int.intBits z : Nat) : Int) = Y at *
      generalize (w : Int) = W at *
      simp [var, e, e2, e3]
    · have e1 : numD (.int z) = false := decide_eq_false h0
      rw [e1] at e
      have e2 : wordD w (.int z) = false := by
        show (decide (0 ≤ z) && decide (Builtin.Int.intBits z ≤ w)) = false
        rw [decide_eq_false h0, Bool.false_and]
      rw [e2]
      generalize (w : Int) = W at *
      simp [var, e]
  | _ =>
    have e2 := e
    rw [show numD _ = false from rfl] at e2
    show done _ = Res.ok (.bl false)
    generalize (w : Int) = W at *
    simp [var, e2]
def wordsD (n w : Nat) (v : D) : Bool := match mems v with
  | none => false
  | some xs => decide (xs.length = n) && xs.all (wordD w)
theorem words_any {v : D} {n w k : Nat} (hv : AL (k + 2) v) : m_are_words [v, nD w, nD n, nD n] = .ok (.bl (wordsD n w v)) := by
  have h1 := as_tuple_any hv.gd
  unfold m_are_words
  rw [fn4]
  unfold b_are_words wordsD
  cases hm : mems v with
  | none =>
    rw [hm] at h1
    dsimp only at h1 ⊢
    have h2 : oisN .non = .ok (.bl true) := rfl
    generalize nD w = W at *
    generalize nD n = N at *
    simp [var, h1, h2]
  | some xs =>
    rw [hm] at h1
    dsimp only at h1 ⊢
    obtain ⟨hg, hl⟩ := AL_mem hv hm
    have h2 : oisN (.tup xs) = .ok (.bl false) := rfl
    have h3 : blen (.tup xs) = .ok (nD xs.length) := rfl
    have le : ∀ a b : Nat, ole (nD a) (nD b) = .ok (.bl (decide (a ≤ b))) := fun a b => by
      unfold nD
      rw [ole_ii]
      congr 2
      exact decide_eq_decide.mpr (by omega)
    have l1 := le n xs.length
    have l2 := le xs.length n
    by_cases he : xs.length = n
    · rw [decide_eq_true (by omega)] at l1 l2
      rw [decide_eq_true he, Bool.true_and]
      have hc : ∀ a, lcE (iseq (var 4)) [5] (gnm 5) yes (call m_is_word (argC (var 5) (argC (var 1) argN))) [some v, some (nD w), some (nD n), some (nD n), some (.tup xs), a] = .ok (.lst (xs.map fun x => .bl (wordD w x))) := fun a => by
        refine lc_mapI (ys := xs) (k := fun x => x) (by simp [var]) (le_sz hl) fun x hx => ?_
        have q := word_any (hg x hx) w
        generalize wordD w x = Bw at *
        generalize nD w = W at *
        generalize nD n = N at *
        generalize D.tup xs = T at *
        exact ⟨_, rfl, by simp only [wipe]; simp [var, q]⟩
      have hb : ball (.lst (xs.map fun x => D.bl (wordD w x))) = .ok (.bl (xs.all (wordD w))) := by
        have := ball_bools (xs.map (wordD w))
        rw [List.map_map] at this
        refine this.trans ?_
        rw [List.all_map]
        rfl
      generalize D.lst (xs.map fun x => D.bl (wordD w x)) = Z at *
      generalize xs.all (wordD w) = J at *
      generalize nD xs.length = L at *
      generalize nD w = W at *
      generalize nD n = N at *
      generalize D.tup xs = T at *
      simp [var, h1, h2, h3, l1, l2, hc, hb]
    · rw [decide_eq_false he, Bool.false_and]
      by_cases hlt : n ≤ xs.length
      · rw [decide_eq_true hlt] at l1
        rw [decide_eq_false (by omega)] at l2
        generalize nD xs.length = L at *
        generalize nD w = W at *
        generalize nD n = N at *
        generalize D.tup xs = T at *
        simp [var, h1, h2, h3, l1, l2]
      · rw [decide_eq_false hlt] at l1
        clear l2
        generalize nD xs.length = L at *
        generalize nD w = W at *
        generalize nD n = N at *
        generalize D.tup xs = T at *
        simp [var, h1, h2, h3, l1]
/-! ### values made from the right marks -/
theorem AL_t {k : Nat} {xs : List D} (h : xs.length ≤ 1000) (ha : ∀ x ∈ xs, AL k x) : AL (k + 1) (.tup xs) := ⟨h, ha⟩
theorem AL_l {k : Nat} {xs : List D} (h : xs.length ≤ 1000) (ha : ∀ x ∈ xs, AL k x) : AL (k + 1) (.lst xs) := ⟨h, ha⟩
theorem AL_1 {k : Nat} {x : D} (h : AL k x) : ∀ y ∈ [x], AL k y := fun y hy => by
  rw [List.mem_singleton.mp hy]
  exact h
theorem AL_0 {k : Nat} : ∀ y ∈ ([] : List D), AL k y := fun y hy => by cases hy
theorem AL_a {k : Nat} {xs ys : List D} (h : ∀ x ∈ xs, AL k x) (h2 : ∀ x ∈ ys, AL k x) : ∀ x ∈ xs ++ ys, AL k x := fun x hx => (List.mem_append.mp hx).elim (h x) (h2 x)
theorem AL_c {k : Nat} {xs : List D} {lo hi : Option Int} (h : ∀ x ∈ xs, AL k x) : ∀ x ∈ cut xs lo hi, AL k x := fun x hx => h x (cut_mem hx)
theorem AL_int (k : Nat) (z : Int) : AL (k + 1) (.int z) := trivial
end Py.U
namespace Py.U
open PySem
/-! ### deeds of any kind -/
structure MV (d : D) : Prop where
  top : gd d = true
  mem : ∀ ys, d = .tup ys → ys.length ≤ 1000 ∧ ∀ y ∈ ys, gd y = true
structure DV (d : D) : Prop where
  top : gd d = true
  mem : ∀ xs, d = .tup xs → xs.length ≤ 1000 ∧ ∀ x ∈ xs, MV x
def primeB : D → Option Nat
  | .int z => if z = 2 then some 2 else if z = 3 then some 3 else if z = 5 then some 5 else none
  | _ => none
def modB (p r : D) : Bool := match primeB p with
  | some n => belowD n r
  | none => false
def partB (k : Nat) : D → Bool
  | .tup ps => decide (1 ≤ ps.length) && (decide (ps.length ≤ 4) && ps.all (belowD k))
  | _ => false
def cntB (k : Nat) : List D → Bool
  | [p, r, x] => modB p r && partB k x
  | _ => false
def deedB (k : Nat) : D → Bool
  | .tup (.str s :: vs) => if s = "count" then cntB k vs else match tab_SIZES.lookup s with | some n => decide ((vs.length : Int) = n) && vs.all (belowD k) | none => false
  | _ => false
theorem slc1 {x : D} {vs : List D} : oslc (.tup (x :: vs)) (some 1) none = .ok (.tup vs) := by
  show Res.ok (D.tup (cut (x :: vs) (some 1) none)) = _
  have e : cut (x :: vs) (some 1) none = vs := by
    unfold cut
    have e0 : HT.sIx (x :: vs).length 0 (some 1) = 1 := by
      rw [show (1 : Int) = ((1 : Nat) : Int) from rfl, HT.sIx_nat]
      simp
    have e1 : HT.sIx (x :: vs).length (x :: vs).length none = (x :: vs).length := rfl
    rw [e0, e1]
    simp only [List.drop_succ_cons, List.drop_zero, List.length_cons, Nat.add_sub_cancel]
    exact List.take_of_length_le (by omega)
  rw [e]
theorem values_any {vs : List D} (hg : ∀ x ∈ vs, gd x = true) (hz : vs.length ≤ 1000) (k : Nat) : m_are_values [.tup vs, nD k] = .ok (.bl (vs.all (belowD k))) := by
  have q := lc_mapI (ys := vs) (k := id) (h := fun x => .bl (belowD k x)) (it := iseq (var 0)) (vs := [2]) (g := gnm 2) (elt := call m_is_below (argC (var 2) (argC (var 1) argN))) (e := [some (.tup vs), some (nD k), none]) (by simp [var]) (le_sz hz) (fun y hy => by
    have q := below_any (hg y hy) k
    generalize nD k = K at *
    exact ⟨_, rfl, by simp only [wipe]; simp [var, q]⟩)
  have e : (vs.map fun d => D.bl (belowD k d)) = (vs.map (belowD k)).map D.bl := by rw [List.map_map]; rfl
  rw [e] at q
  unfold m_are_values
  rw [fn2]
  unfold b_are_values
  show done (ret _ [some (.tup vs), some (nD k), none]) = _
  rw [ret_eq, un_eq, q, bind_ok, ball_bools, List.all_map]
  rfl
theorem prime_in (z : Int) : onotin (.int z) (.tup [.int 2, .int 3, .int 5]) = .ok (.bl (!(primeB (.int z)).isSome)) := by
  have e : onotin (.int z) (.tup [.int 2, .int 3, .int 5]) = .ok (.bl (!(mem (.int z) [.int 2, .int 3, .int 5]))) := rfl
  rw [e]
  congr 2
  show _ = (if z = 2 then some 2 else if z = 3 then some 3 else if z = 5 then some 5 else none).isSome.not
  by_cases h2 : z = 2
  · subst h2; rfl
  by_cases h3 : z = 3
  · subst h3; rfl
  by_cases h5 : z = 5
  · subst h5; rfl
  simp [h2, h3, h5, mem, eqv]
  omega
theorem prime_nat {z : Int} {n : Nat} (h : primeB (.int z) = some n) : D.int z = nD n ∧ (n = 2 ∨ n = 3 ∨ n = 5) := by
  unfold primeB at h
  by_cases h2 : z = 2
  · subst h2; simp at h; subst h; exact ⟨rfl, by simp⟩
  by_cases h3 : z = 3
  · subst h3; simp at h; subst h; exact ⟨rfl, by simp⟩
  by_cases h5 : z = 5
  · subst h5; simp at h; subst h; exact ⟨rfl, by simp⟩
  simp [h2, h3, h5] at h
theorem prime_not {p : D} (h : (isI .int p && !isI .bl p) = false) : primeB p = none := by
  cases p <;> first | rfl | simp [isI] at h
theorem parts_any {x : D} (hx : MV x) (k : Nat) : (andE (un (oisi CS [.tup]) (var 4)) (andE (Py.chain ole ole (cst (.int 1)) (un blen (var 4)) (cst (.int 4))) (call m_are_values (argC (var 4) (argC (var 1) argN))))) [a0, some (nD k), a2, a3, some x] = .ok (.bl (partB k x)) := by
  have e0 := isi_any (ts := [.tup]) hx.top rfl
  simp only [List.any_cons, List.any_nil, Bool.or_false] at e0
  cases x with
  | tup ps =>
    obtain ⟨hl, hg⟩ := hx.mem ps rfl
    have e1 := values_any hg hl k
    have e2 : blen (.tup ps) = .ok (.int (ps.length : Int)) := rfl
    have e3 : ole (.int 1) (.int (ps.length : Int)) = .ok (.bl (decide (1 ≤ ps.length))) := by rw [ole_ii]; congr 2; exact decide_eq_decide.mpr (by omega)
    have e4 : ole (.int (ps.length : Int)) (.int 4) = .ok (.bl (decide (ps.length ≤ 4))) := by rw [ole_ii]; congr 2; exact decide_eq_decide.mpr (by omega)
    have e5 : isI .tup (.tup ps) = true := rfl
    rw [e5] at e0
    show _ = Res.ok (D.bl (decide (1 ≤ ps.length) && (decide (ps.length ≤ 4) && ps.all (belowD k))))
    generalize ps.all (belowD k) = B at *
    generalize (ps.length : Int) = Z at *
    generalize D.tup ps = X at *
    generalize nD k = K at *
    generalize decide (1 ≤ ps.length) = b1 at *
    generalize decide (ps.length ≤ 4) = b2 at *
    cases b1
    · simp [var, e0, e2, e3]
    · cases b2 <;> simp [var, e0, e1, e2, e3, e4]
  | _ =>
    simp [isI] at e0
    show _ = Res.ok (D.bl false)
    generalize nD k = K at *
    simp [var, e0]
theorem count_any {x0 : D} {vs : List D} (hz : vs.length ≤ 1000) (hv : ∀ x ∈ vs, MV x) (k : Nat) : m_is_count_deed [.tup (x0 :: vs), nD k] = .ok (.bl (cntB k vs)) := by
  have e1 : blen (.tup (x0 :: vs)) = .ok (nD (vs.length + 1)) := by rw [blen_t, List.length_cons]; rfl
  have e2 : Py.one (nD (vs.length + 1)) (.int 4) = .ok (.bl (!decide (vs.length = 3))) := by
    show Py.one (.int ((vs.length + 1 : Nat) : Int)) (.int 4) = _
    rw [one_ii]
    by_cases q : vs.length = 3
    · rw [q]; rfl
    · have q2 : ¬ (((vs.length + 1 : Nat) : Int) = 4) := by omega
      simp only [q, decide_false, Bool.not_false]
      have : ((((vs.length + 1 : Nat) : Int) == 4) = false) := by simpa using q2
      rw [this]
      rfl
  unfold m_is_count_deed
  rw [fn2]
  unfold b_is_count_deed
  show done (seq _ (seq _ _) [some (.tup (x0 :: vs)), some (nD k), none, none, none]) = _
  by_cases h3 : vs.length = 3
  · match vs, h3 with
    | [p, r, x], _ =>
      have hp := hv p (by simp)
      have hr := hv r (by simp)
      have hx := hv x (by simp)
      have s1 := slc1 (x := x0) (vs := [p, r, x])
      have pa := parts_any (a0 := some (.tup [x0, p, r, x])) (a2 := some p) (a3 := some r) hx k
      have g1 := isint_any hp.top
      have fin : cntB k [p, r, x] = (modB p r && partB k x) := rfl
      rw [fin]
      have c1 : (tst (bin Py.one (un blen (var 0)) (cst (.int 4)))) [some (.tup [x0, p, r, x]), some (nD k), none, none, none] = .ok false := by
        have e1' : blen (.tup [x0, p, r, x]) = .ok (.int 4) := rfl
        simp [var, e1']
      have c2 : (asg (gtup [(gnm 2), (gnm 3), (gnm 4)]) (slc (var 0) (some (cst (.int 1))) none)) [some (.tup [x0, p, r, x]), some (nD k), none, none, none] = .ok (.next [some (.tup [x0, p, r, x]), some (nD k), some p, some r, some x]) := by
        generalize nD k = K at *
        generalize D.tup [x0, p, r, x] = X at *
        simp [var, gtup, gtupL, slc_eq, bnd_none, bnd_some, s1]
      rw [(chk_pass c1), (seq_next c2)]
      generalize partB k x = PB at *
      have c3 : (orT (notT (tst (call m_is_integer (argC (var 2) argN)))) (orT (tst (bin onotin (var 2) (tupE (argC (cst (.int 2)) (argC (cst (.int 3)) (argC (cst (.int 5)) argN)))))) (notT (tst (call m_is_below (argC (var 3) (argC (var 2) argN))))))) [some (.tup [x0, p, r, x]), some (nD k), some p, some r, some x] = .ok (!modB p r) := by
        unfold modB
        cases hi : (isI .int p && !isI .bl p) with
        | false =>
          rw [hi] at g1
          rw [prime_not hi]
          generalize D.tup [x0, p, r, x] = X at *
          simp [var, g1]
        | true =>
          obtain ⟨z, rfl⟩ := not_int hi
          rw [hi] at g1
          have g2 := prime_in z
          cases hpz : primeB (.int z) with
          | none =>
            rw [hpz] at g2
            simp [var, g1, g2]
          | some n =>
            rw [hpz] at g2
            have g3 := below_any hr.top n
            rw [← (prime_nat hpz).1] at g3
            simp [var, g1, g2, g3]
      cases hb : modB p r with
      | false =>
        rw [hb] at c3
        rw [seq_eq, ite_eq, c3]
        rfl
      | true =>
        rw [hb] at c3
        rw [chk_pass c3, ret_eq, pa]
        rfl
  · rw [decide_eq_false h3] at e2
    have fin : cntB k vs = false := by
      match vs, h3 with
      | [], _ => rfl
      | [a], _ => rfl
      | [a, b], _ => rfl
      | [a, b, c], h => exact absurd rfl h
      | a :: b :: c :: d :: l, _ => cases c <;> rfl
    rw [fin]
    generalize D.tup (x0 :: vs) = X at *
    generalize nD (vs.length + 1) = L at *
    simp [var, e1, e2]
theorem count_eq (s : String) : oeq (.str s) (.str "count") = .ok (.bl (decide (s = "count"))) := by
  rw [str_eq]
  congr 2
theorem is_deed_any {d : D} (hd : DV d) (k : Nat) : m_is_deed [d, nD k] = .ok (.bl (deedB k d)) := by
  have e0 := isi_any (ts := [.tup]) hd.top rfl
  simp only [List.any_cons, List.any_nil, Bool.or_false] at e0
  unfold m_is_deed
  rw [fn2]
  unfold b_is_deed
  cases d with
  | tup xs =>
    obtain ⟨hl, hm⟩ := hd.mem xs rfl
    have e1 : isI .tup (.tup xs) = true := rfl
    rw [e1] at e0
    cases xs with
    | nil =>
      have e2 : truthy (.tup []) = .ok false := rfl
      have fin : deedB k (.tup []) = false := rfl
      rw [fin]
      generalize nD k = K at *
      generalize D.tup [] = X at *
      simp [var, e0, e2]
    | cons x0 vs =>
      have e2 : truthy (.tup (x0 :: vs)) = .ok true := by simp [truthy]
      have e3 : oidx (.tup (x0 :: vs)) (.int 0) = .ok x0 := oidx_t (k := 0) rfl
      have e4 := isi_any (ts := [.str]) (hm x0 (by simp)).top rfl
      simp only [List.any_cons, List.any_nil, Bool.or_false] at e4
      have hl2 : vs.length ≤ 1000 := by simp at hl; omega
      have hm2 : ∀ x ∈ vs, MV x := fun x hx => hm x (List.mem_cons_of_mem _ hx)
      cases x0 with
      | str s =>
        have e5 : isI .str (.str s) = true := rfl
        rw [e5] at e4
        have e6 := count_eq s
        have e7 := count_any (x0 := .str s) hl2 hm2 k
        have e8 := slc1 (x := .str s) (vs := vs)
        have e9 := values_any (fun x hx => (hm2 x hx).top) hl2 k
        have e10 : onothas tab_SIZES (.str s) = .ok (.bl (!(tab_SIZES.lookup s).isSome)) := rfl
        have e11 : olook tab_SIZES (.str s) = opt ((tab_SIZES.lookup s).map D.int) := rfl
        have e12 : blen (.tup (.str s :: vs)) = .ok (.int ((vs.length : Int) + 1)) := by simp
        show _ = Res.ok (D.bl (if s = "count" then cntB k vs else match tab_SIZES.lookup s with | some n => decide ((vs.length : Int) = n) && vs.all (belowD k) | none => false))
        by_cases hc : s = "count"
        · rw [decide_eq_true hc] at e6
          rw [if_pos hc]
          generalize cntB k vs = B at *
          generalize nD k = K at *
          generalize D.tup (.str s :: vs) = X at *
          simp [var, e0, e2, e3, e4, e6, e7]
        · rw [decide_eq_false hc] at e6
          rw [if_neg hc]
          clear e7
          cases hn : tab_SIZES.lookup s with
          | none =>
            rw [hn] at e10
            generalize nD k = K at *
            generalize D.tup (.str s :: vs) = X at *
            simp [var, e0, e2, e3, e4, e6, e10]
          | some n =>
            rw [hn] at e10 e11
            show _ = Res.ok (D.bl (decide ((vs.length : Int) = n) && vs.all (belowD k)))
            have e13 : olook tab_SIZES (.str s) = .ok (.int n) := e11
            have e14 : Py.one (.int ((vs.length : Int) + 1)) (.int (n + 1)) = .ok (.bl (!decide ((vs.length : Int) = n))) := by
              rw [one_ii]
              by_cases q : (vs.length : Int) = n
              · rw [q]; simp
              · have q2 : ¬ ((vs.length : Int) + 1 = n + 1) := by omega
                simp [q, q2]
            by_cases q : (vs.length : Int) = n
            · rw [decide_eq_true q] at e14 ⊢
              generalize vs.all (belowD k) = B at *
              generalize nD k = K at *
              generalize D.tup (.str s :: vs) = X at *
              generalize (vs.length : Int) + 1 = L at *
              simp [var, e0, e2, e3, e4, e6, e8, e9, e10, e12, e13, e14, slc_eq, bnd_none, bnd_some]
            · rw [decide_eq_false q] at e14 ⊢
              generalize nD k = K at *
              generalize D.tup (.str s :: vs) = X at *
              generalize (vs.length : Int) + 1 = L at *
              simp [var, e0, e2, e3, e4, e6, e10, e12, e13, e14]
      | _ =>
        simp [isI] at e4
        show _ = Res.ok (D.bl false)
        generalize nD k = K at *
        generalize D.tup (_ :: vs) = X at *
        simp [var, e0, e2, e3, e4]
  | _ =>
    simp [isI] at e0
    show _ = Res.ok (D.bl false)
    generalize nD k = K at *
    simp [var, e0]
end Py.U
namespace Py.U
open PySem
/-! ### the law's judging of deeds -/
def rngB (a b : Int) : D → Bool
  | .int z => decide (a ≤ z) && decide (z ≤ b)
  | _ => false
theorem rng_not {d : D} (h : (isI .int d && !isI .bl d) = false) (a b : Int) : rngB a b d = false := by
  cases d <;> first | rfl | simp [isI] at h
theorem rng_any {d : D} (h : gd d = true) (a b : Int) : m_law_in_range [d, .int a, .int b] = .ok (.bl (rngB a b d)) := by
  have e1 := isi_any (ts := [.int]) h rfl
  have e2 := isi_any (ts := [.bl]) h rfl
  simp only [List.any_cons, List.any_nil, Bool.or_false] at e1 e2
  unfold m_law_in_range
  rw [fn3]
  unfold b__law_in_range
  cases hi : (isI .int d && !isI .bl d) with
  | true =>
    obtain ⟨z, rfl⟩ := not_int hi
    rw [show rngB a b (.int z) = (decide (a ≤ z) && decide (z ≤ b)) from rfl]
    have e3 : isI .int (.int z) = true := rfl
    have e4 : isI .bl (.int z) = false := rfl
    rw [e3] at e1
    rw [e4] at e2
    by_cases h0 : a ≤ z <;> simp [var, e1, e2, h0]
  | false =>
    rw [rng_not hi]
    rw [Bool.and_eq_false_iff] at hi
    cases h1 : isI .int d with
    | false =>
      rw [h1] at e1
      simp [var, e1]
    | true =>
      have h2 : isI .bl d = true := by
        rcases hi with hi | hi
        · rw [h1] at hi
          cases hi
        · simpa using hi
      rw [h1] at e1
      rw [h2] at e2
      simp [var, e1, e2]
theorem all_any {vs : List D} (hg : ∀ x ∈ vs, gd x = true) (k : Nat) : m_law_all_in_range [.tup vs, .int 0, .int ((k : Int) - 1)] = .ok (.bl (vs.all (belowD k))) := by
  have step : ∀ z ∈ vs, ∀ o, forB (gnm 3) (Py.ite (notT (tst (call m_law_in_range (argC (var 3) (argC (var 1) (argC (var 2) argN)))))) (ret (cst (.bl false))) skip) z [some (.tup vs), some (.int 0), some (.int ((k : Int) - 1)), o] = if (!belowD k z) then .ok (.ret (.bl false)) else .ok (.next [some (.tup vs), some (.int 0), some (.int ((k : Int) - 1)), some z]) := fun z h o => by
    have q := range_any (hg z h) k
    generalize (k : Int) - 1 = T at *
    generalize D.tup vs = X at *
    cases hb : belowD k z with
    | true =>
      rw [hb] at q
      simp [var, q]
    | false =>
      rw [hb] at q
      simp [var, q]
  obtain ⟨q1, q2⟩ := forL_find (b := forB (gnm 3) (Py.ite (notT (tst (call m_law_in_range (argC (var 3) (argC (var 1) (argC (var 2) argN)))))) (ret (cst (.bl false))) skip)) (p := fun z => !belowD k z) (d := .bl false) (i := 3) (xs := vs) (e := [some (.tup vs), some (.int 0), some (.int ((k : Int) - 1)), none]) (fun z h o => step z h _) (fun z h => step z h _)
  unfold m_law_all_in_range
  rw [fn3]
  unfold b__law_all_in_range
  show done (seq _ _ [some (.tup vs), some (.int 0), some (.int ((k : Int) - 1)), none]) = _
  have hi : iseq (var 0) [some (.tup vs), some (.int 0), some (.int ((k : Int) - 1)), none] = .ok vs := rfl
  cases hb : vs.all (belowD k) with
  | true =>
    obtain ⟨e, h1, h2⟩ := q2 (by rw [← List.not_all_eq_any_not, hb]; rfl)
    rw [for_pass hi h1]
    rfl
  | false =>
    have h1 := q1 (by rw [← List.not_all_eq_any_not, hb]; rfl)
    rw [seq_eq, for_eq, hi, bind_ok, h1]
    rfl
theorem ix1 {x0 p r x : D} : oidx (.tup [x0, p, r, x]) (.int 1) = .ok p := oidx_t (k := 1) rfl
theorem ix2 {x0 p r x : D} : oidx (.tup [x0, p, r, x]) (.int 2) = .ok r := oidx_t (k := 2) rfl
theorem ix3 {x0 p r x : D} : oidx (.tup [x0, p, r, x]) (.int 3) = .ok x := oidx_t (k := 3) rfl
def lcnt : SM := (seq (Py.ite (orT (tst (bin Py.one (un blen (var 0)) (cst (.int 4)))) (orT (notT (tst (call m_law_in_range (argC (bin oidx (var 0) (cst (.int 1))) (argC (cst (.int 2)) (argC (cst (.int 5)) argN)))))) (tst (bin oeq (bin oidx (var 0) (cst (.int 1))) (cst (.int 4)))))) (ret (cst (.bl false))) skip)
  (seq (Py.ite (orT (notT (tst (call m_law_in_range (argC (bin oidx (var 0) (cst (.int 2))) (argC (cst (.int 0)) (argC (bin osub (bin oidx (var 0) (cst (.int 1))) (cst (.int 1))) argN)))))) (notT (tst (un (oisi CS [.tup]) (bin oidx (var 0) (cst (.int 3))))))) (ret (cst (.bl false))) skip)
  (ret (andE (Py.chain ole ole (cst (.int 1)) (un blen (bin oidx (var 0) (cst (.int 3)))) (cst (.int 4))) (call m_law_all_in_range (argC (bin oidx (var 0) (cst (.int 3))) (argC (cst (.int 0)) (argC (bin osub (var 1) (cst (.int 1))) argN))))))))
theorem prime_rng (z : Int) : (primeB (.int z)).isSome = (rngB 2 5 (.int z) && !(z == 4)) := by
  unfold primeB rngB
  by_cases h2 : z = 2
  · subst h2; rfl
  by_cases h3 : z = 3
  · subst h3; rfl
  by_cases h5 : z = 5
  · subst h5; rfl
  by_cases h4 : z = 4
  · subst h4; rfl
  simp [h2, h3, h5, h4]
  omega
theorem lcnt_any {x0 : D} {vs : List D} (hz : vs.length ≤ 1000) (hv : ∀ x ∈ vs, MV x) (k : Nat) : lcnt [some (.tup (x0 :: vs)), some (nD k)] = .ok (.ret (.bl (cntB k vs))) := by
  have e1 : blen (.tup (x0 :: vs)) = .ok (nD (vs.length + 1)) := by rw [blen_t, List.length_cons]; rfl
  have e2 : Py.one (nD (vs.length + 1)) (.int 4) = .ok (.bl (!decide (vs.length = 3))) := by
    show Py.one (.int ((vs.length + 1 : Nat) : Int)) (.int 4) = _
    rw [one_ii]
    by_cases q : vs.length = 3
    · rw [q]; rfl
    · have q2 : ¬ (((vs.length + 1 : Nat) : Int) = 4) := by omega
      simp only [q, decide_false, Bool.not_false]
      have : ((((vs.length + 1 : Nat) : Int) == 4) = false) := by simpa using q2
      rw [this]
      rfl
  unfold lcnt
  by_cases h3 : vs.length = 3
  · match vs, h3 with
    | [p, r, x], _ =>
      have hp := hv p (by simp)
      have hr := hv r (by simp)
      have hx := hv x (by simp)
      have fin : cntB k [p, r, x] = (modB p r && partB k x) := rfl
      rw [fin]
      have e1' : blen (.tup [x0, p, r, x]) = .ok (.int 4) := rfl
      have i1 := @ix1 x0 p r x
      have i2 := @ix2 x0 p r x
      have i3 := @ix3 x0 p r x
      have g1 := rng_any hp.top 2 5
      have e0 := isi_any (ts := [.tup]) hx.top rfl
      simp only [List.any_cons, List.any_nil, Bool.or_false] at e0
      generalize hX : D.tup [x0, p, r, x] = X at *
      cases hi : (isI .int p && !isI .bl p) with
      | false =>
        rw [rng_not hi] at g1
        have : modB p r = false := by unfold modB; rw [prime_not hi]
        rw [this]
        generalize nD k = K at *
        simp [var, e1', i1, g1]
      | true =>
        obtain ⟨z, rfl⟩ := not_int hi
        have hpr := prime_rng z
        cases hpz : primeB (.int z) with
        | none =>
          have hm : modB (.int z) r = false := by unfold modB; rw [hpz]
          rw [hm]
          rw [hpz] at hpr
          cases hb : rngB 2 5 (.int z) with
          | false =>
            rw [hb] at g1
            generalize nD k = K at *
            simp [var, e1', i1, g1]
          | true =>
            rw [hb] at g1 hpr
            have h4 : (z == 4) = true := by simpa using hpr.symm
            generalize nD k = K at *
            simp [var, e1', i1, g1, h4]
        | some n =>
          have hm : modB (.int z) r = belowD n r := by unfold modB; rw [hpz]
          rw [hm]
          rw [hpz] at hpr
          have hb : rngB 2 5 (.int z) = true ∧ (z == 4) = false := by
            have h' : (rngB 2 5 (.int z) && !(z == 4)) = true := hpr.symm
            simpa using h'
          rw [hb.1] at g1
          have h4 := hb.2
          have hzn := (prime_nat hpz).1
          have g3 := range_any hr.top n
          have hs : osub (.int z) (.int 1) = .ok (.int ((n : Int) - 1)) := by rw [hzn]; rfl
          have hk : osub (nD k) (.int 1) = .ok (.int ((k : Int) - 1)) := rfl
          cases hbl : belowD n r with
          | false =>
            rw [hbl] at g3
            generalize (n : Int) - 1 = N1 at *
            generalize nD k = K at *
            simp [var, e1', i1, i2, g1, h4, hs, g3]
          | true =>
            rw [hbl] at g3
            cases x with
            | tup ps =>
              obtain ⟨hl, hg⟩ := hx.mem ps rfl
              have e1 := all_any hg k
              have e2 : blen (.tup ps) = .ok (.int (ps.length : Int)) := rfl
              have e3 : ole (.int 1) (.int (ps.length : Int)) = .ok (.bl (decide (1 ≤ ps.length))) := by rw [ole_ii]; congr 2; exact decide_eq_decide.mpr (by omega)
              have e4 : ole (.int (ps.length : Int)) (.int 4) = .ok (.bl (decide (ps.length ≤ 4))) := by rw [ole_ii]; congr 2; exact decide_eq_decide.mpr (by omega)
              have e5 : isI .tup (.tup ps) = true := rfl
              rw [e5] at e0
              show _ = Res.ok (Fl.ret (D.bl (true && (decide (1 ≤ ps.length) && (decide (ps.length ≤ 4) && ps.all (belowD k))))))
              rw [Bool.true_and]
              generalize ps.all (belowD k) = B at *
              generalize (ps.length : Int) = Z at *
              generalize D.tup ps = Y at *
              generalize (n : Int) - 1 = N1 at *
              generalize (k : Int) - 1 = K1 at *
              generalize nD k = K at *
              generalize decide (1 ≤ ps.length) = b1 at *
              generalize decide (ps.length ≤ 4) = b2 at *
              cases b1
              · simp [var, e1', i1, i2, i3, g1, h4, hs, g3, e0, e2, e3]
              · cases b2 <;> simp [var, e1', i1, i2, i3, g1, h4, hs, hk, g3, e0, e1, e2, e3, e4]
            | _ =>
              simp [isI] at e0
              show _ = Res.ok (Fl.ret (D.bl false))
              generalize (n : Int) - 1 = N1 at *
              generalize nD k = K at *
              simp [var, e1', i1, i2, i3, g1, h4, hs, g3, e0]
  · rw [decide_eq_false h3] at e2
    have fin : cntB k vs = false := by
      match vs, h3 with
      | [], _ => rfl
      | [a], _ => rfl
      | [a, b], _ => rfl
      | [a, b, c], h => exact absurd rfl h
      | a :: b :: c :: d :: l, _ => rfl
    rw [fin]
    generalize D.tup (x0 :: vs) = X at *
    generalize nD (vs.length + 1) = L at *
    generalize nD k = K at *
    simp [var, e1, e2]
abbrev L0 : D := .lst [.str "zero", .str "ones"]
abbrev L1 : D := .lst [.str "not", .str "shift", .str "minus"]
abbrev L2' : D := .lst [.str "and", .str "or", .str "xor", .str "add", .str "sub"]
theorem kinds (s : String) : (tab_SIZES.lookup s = none ∧ oin (.str s) L0 = .ok (.bl false) ∧ oin (.str s) L1 = .ok (.bl false) ∧ oin (.str s) L2' = .ok (.bl false)) ∨ (tab_SIZES.lookup s = some 0 ∧ oin (.str s) L0 = .ok (.bl true)) ∨ (tab_SIZES.lookup s = some 1 ∧ oin (.str s) L0 = .ok (.bl false) ∧ oin (.str s) L1 = .ok (.bl true)) ∨ (tab_SIZES.lookup s = some 2 ∧ oin (.str s) L0 = .ok (.bl false) ∧ oin (.str s) L1 = .ok (.bl false) ∧ oin (.str s) L2' = .ok (.bl true)) := by
  by_cases h0 : s = "zero"
  · subst h0; exact .inr (.inl ⟨rfl, rfl⟩)
  by_cases h1 : s = "ones"
  · subst h1; exact .inr (.inl ⟨rfl, rfl⟩)
  by_cases h2 : s = "not"
  · subst h2; exact .inr (.inr (.inl ⟨rfl, rfl, rfl⟩))
  by_cases h3 : s = "shift"
  · subst h3; exact .inr (.inr (.inl ⟨rfl, rfl, rfl⟩))
  by_cases h4 : s = "minus"
  · subst h4; exact .inr (.inr (.inl ⟨rfl, rfl, rfl⟩))
  by_cases h5 : s = "and"
  · subst h5; exact .inr (.inr (.inr ⟨rfl, rfl, rfl, rfl⟩))
  by_cases h6 : s = "or"
  · subst h6; exact .inr (.inr (.inr ⟨rfl, rfl, rfl, rfl⟩))
  by_cases h7 : s = "xor"
  · subst h7; exact .inr (.inr (.inr ⟨rfl, rfl, rfl, rfl⟩))
  by_cases h8 : s = "add"
  · subst h8; exact .inr (.inr (.inr ⟨rfl, rfl, rfl, rfl⟩))
  by_cases h9 : s = "sub"
  · subst h9; exact .inr (.inr (.inr ⟨rfl, rfl, rfl, rfl⟩))
  have oi : ∀ ys : List D, (flatD (.str s) && ys.all flatD) = true → oin (.str s) (.lst ys) = .ok (.bl (mem (.str s) ys)) := fun ys h => if_pos h
  refine .inl ⟨?_, ?_, ?_, ?_⟩
  · simp [tab_SIZES, List.lookup, beq_iff_eq, h0, h1, h2, h3, h4, h5, h6, h7, h8, h9]
    have e : ∀ t : String, s ≠ t → (s == t) = false := fun t h => by simpa using h
    simp [e _ h0, e _ h1, e _ h2, e _ h3, e _ h4, e _ h5, e _ h6, e _ h7, e _ h8, e _ h9]
  · rw [oi _ rfl]
    simp [mem, eqv, h0, h1, Ne.symm h0, Ne.symm h1]
  · rw [oi _ rfl]
    simp [mem, eqv, h2, h3, h4, Ne.symm h2, Ne.symm h3, Ne.symm h4]
  · rw [oi _ rfl]
    simp [mem, eqv, h5, h6, h7, h8, h9, Ne.symm h5, Ne.symm h6, Ne.symm h7, Ne.symm h8, Ne.symm h9]
theorem len_eq (vs : List D) (x0 : D) : ∃ L, blen (.tup (x0 :: vs)) = .ok L ∧ ∀ n : Nat, oeq L (.int ((n + 1 : Nat) : Int)) = .ok (.bl (decide ((vs.length : Int) = (n : Int)))) := by
  refine ⟨_, blen_t _, fun n => ?_⟩
  rw [oeq_ii, List.length_cons]
  congr 2
  by_cases h : (vs.length : Int) = (n : Int)
  · have h2 : vs.length = n := by omega
    subst h2
    simp
  · rw [decide_eq_false h]
    have h2 : ¬ (((vs.length + 1 : Nat) : Int) = ((n + 1 : Nat) : Int)) := by omega
    simpa using h2
theorem law_deed_any {d : D} (hd : DV d) (k : Nat) : m_law_is_deed [d, nD k] = .ok (.bl (deedB k d)) := by
  have e0 := isi_any (ts := [.tup]) hd.top rfl
  simp only [List.any_cons, List.any_nil, Bool.or_false] at e0
  unfold m_law_is_deed
  rw [fn2]
  show done (seq _ (seq (Py.ite _ lcnt skip) _) [some d, some (nD k)]) = _
  cases d with
  | tup xs =>
    obtain ⟨hl, hm⟩ := hd.mem xs rfl
    simp [isI] at e0
    cases xs with
    | nil =>
      have fin : deedB k (.tup []) = false := rfl
      rw [fin]
      have e2 : blen (.tup []) = .ok (.int 0) := rfl
      generalize nD k = K at *
      generalize D.tup [] = X at *
      simp [var, e0, e2]
    | cons x0 vs =>
      have e3 : oidx (.tup (x0 :: vs)) (.int 0) = .ok x0 := oidx_t (k := 0) rfl
      have e4 := isi_any (ts := [.str]) (hm x0 (by simp)).top rfl
      simp only [List.any_cons, List.any_nil, Bool.or_false] at e4
      have hl2 : vs.length ≤ 1000 := by simp at hl; omega
      have hm2 : ∀ x ∈ vs, MV x := fun x hx => hm x (List.mem_cons_of_mem _ hx)
      have e2 : (bin oeq (un blen (var 0)) (cst (.int 0))) [some (.tup (x0 :: vs)), some (nD k)] = .ok (.bl false) := by
        show oeq (.int ((x0 :: vs).length : Int)) (.int 0) = _
        rw [oeq_ii, List.length_cons]
        congr 2
      cases x0 with
      | str s =>
        simp [isI] at e4
        have e6 := count_eq s
        have e7 := lcnt_any (x0 := .str s) hl2 hm2 k
        have e8 := slc1 (x := .str s) (vs := vs)
        have e9 := all_any (fun x hx => (hm2 x hx).top) k
        have hk : osub (nD k) (.int 1) = .ok (.int ((k : Int) - 1)) := rfl
        show _ = Res.ok (D.bl (if s = "count" then cntB k vs else match tab_SIZES.lookup s with | some n => decide ((vs.length : Int) = n) && vs.all (belowD k) | none => false))
        have first : (orT (notT (tst (un (oisi CS [.tup]) (var 0)))) (orT (tst (bin oeq (un blen (var 0)) (cst (.int 0)))) (notT (tst (un (oisi CS [.str]) (bin oidx (var 0) (cst (.int 0)))))))) [some (.tup (.str s :: vs)), some (nD k)] = .ok false := by
          simp only [orT_eq, notT_eq, tst_eq, e2]
          generalize nD k = K at *
          generalize D.tup (.str s :: vs) = X at *
          simp [var, e0, e3, e4]
        rw [chk_pass first]
        by_cases hc : s = "count"
        · rw [decide_eq_true hc] at e6
          rw [if_pos hc]
          generalize cntB k vs = B at *
          have t1 : (tst (bin oeq (bin oidx (var 0) (cst (.int 0))) (cst (.str "count")))) [some (.tup (.str s :: vs)), some (nD k)] = .ok true := by
            generalize nD k = K at *
            generalize D.tup (.str s :: vs) = X at *
            simp [var, e3, e6]
          rw [seq_eq, ite_eq, t1, bind_ok, if_pos rfl, e7]
          rfl
        · rw [decide_eq_false hc] at e6
          rw [if_neg hc]
          clear e7
          have t1 : (tst (bin oeq (bin oidx (var 0) (cst (.int 0))) (cst (.str "count")))) [some (.tup (.str s :: vs)), some (nD k)] = .ok false := by
            generalize nD k = K at *
            generalize D.tup (.str s :: vs) = X at *
            simp [var, e3, e6]
          rw [chk_pass t1]
          obtain ⟨L, hL, hn⟩ := len_eq vs (.str s)
          have l0 : oeq L (.int 1) = .ok (.bl (decide ((vs.length : Int) = 0))) := hn 0
          have l1 : oeq L (.int 2) = .ok (.bl (decide ((vs.length : Int) = 1))) := hn 1
          have l2 : oeq L (.int 3) = .ok (.bl (decide ((vs.length : Int) = 2))) := hn 2
          rcases kinds s with ⟨k0, k1, k2, k3⟩ | ⟨k0, k1⟩ | ⟨k0, k1, k2⟩ | ⟨k0, k1, k2, k3⟩
          · rw [k0]
            generalize nD k = K at *
            generalize D.tup (.str s :: vs) = X at *
            simp [var, e3, k1, k2, k3]
          · rw [k0]
            show _ = Res.ok (D.bl (decide ((vs.length : Int) = 0) && vs.all (belowD k)))
            have hv : (decide ((vs.length : Int) = 0) && vs.all (belowD k)) = decide ((vs.length : Int) = 0) := by
              cases vs with
              | nil => rfl
              | cons a b =>
                have : decide (((a :: b).length : Int) = 0) = false := decide_eq_false (by simp; omega)
                rw [this, Bool.false_and]
            rw [hv]
            generalize nD k = K at *
            generalize decide ((vs.length : Int) = 0) = V at *
            generalize D.tup (.str s :: vs) = X at *
            simp [var, e3, k1, hL, l0]
          · rw [k0]
            show _ = Res.ok (D.bl (decide ((vs.length : Int) = 1) && vs.all (belowD k)))
            generalize nD k = K at *
            generalize decide ((vs.length : Int) = 1) = V at *
            generalize vs.all (belowD k) = B at *
            generalize D.tup (.str s :: vs) = X at *
            generalize (k : Int) - 1 = K1 at *
            cases V <;> simp [var, e3, k1, k2, hL, l1, slc_eq, bnd_some, bnd_none, e8, hk, e9]
          · rw [k0]
            show _ = Res.ok (D.bl (decide ((vs.length : Int) = 2) && vs.all (belowD k)))
            generalize nD k = K at *
            generalize decide ((vs.length : Int) = 2) = V at *
            generalize vs.all (belowD k) = B at *
            generalize D.tup (.str s :: vs) = X at *
            generalize (k : Int) - 1 = K1 at *
            cases V <;> simp [var, e3, k1, k2, k3, hL, l2, slc_eq, bnd_some, bnd_none, e8, hk, e9]
      | _ =>
        simp [isI] at e4
        show _ = Res.ok (D.bl false)
        simp only [seq_eq, ite_eq, orT_eq, notT_eq, tst_eq, e2]
        generalize nD k = K at *
        generalize D.tup (_ :: vs) = X at *
        simp [var, e0, e3, e4]
  | _ =>
    simp [isI] at e0
    show _ = Res.ok (D.bl false)
    generalize nD k = K at *
    simp [var, e0]
end Py.U
namespace Py.U
open PySem
/-! ### rows of anything -/
structure TV (v : D) : Prop where
  top : gd v = true
  mem : ∀ xs, mems v = some xs → xs.length ≤ 900 ∧ ∀ x ∈ xs, DV x
def okD (n : Nat) (xs : List D) (j : Nat) : Bool := deedB (n + j) (xs.getD j .non)
def fR (p : String) (k : Nat) : List (String × D) := [("place", nD k), ("part", .str p)]
def eR (p : String) (k : Nat) : Res D := .exc "InvalidRow" (fR p k)
def fault (n : Nat) (v o : D) : Option (String × Nat) := match mems v with
  | none => some ("deeds", 0)
  | some xs => match firstF (okD n xs) 0 xs.length with
    | some j => some ("deeds", j)
    | none => if belowD (n + xs.length) o then none else some ("out", 0)
def ftD : Option (String × Nat) → D
  | some (p, k) => .tup [.str p, nD k]
  | none => .non
theorem fault_in {i x y : D} (hi : gd i = true) (h : inD i = false) : m_law_fault [i, x, y] = .ok (.tup [.str "inputs", nD 0]) := by
  have e := inrange_any hi
  rw [h] at e
  unfold m_law_fault
  rw [fn3]
  unfold b__law_fault nD
  simp [var, e]
theorem inD_nD {n : Nat} (h1 : 1 ≤ n) (h3 : n ≤ 3) : inD (nD n) = true := by
  show (decide (1 ≤ (n : Int)) && decide ((n : Int) ≤ 3)) = true
  rw [decide_eq_true (by omega), decide_eq_true (by omega)]
  rfl
def ltB : SM := Py.ite (notT (tst (call m_law_is_deed (argC (bin oidx (var 1) (var 3)) (argC (bin oadd (var 0) (var 3)) argN))))) (ret (tupE (argC (cst (.str "deeds")) (argC (var 3) argN)))) skip
theorem fault_ok {n : Nat} {x y : D} (h1 : 1 ≤ n) (h3 : n ≤ 3) (hx : TV x) (hy : gd y = true) : m_law_fault [nD n, x, y] = .ok (ftD (fault n x y)) := by
  have e := inrange_any (d := nD n) rfl
  rw [inD_nD h1 h3] at e
  have s1 := seq_any hx.top
  unfold m_law_fault
  rw [fn3]
  unfold fault
  show done (seq _ (seq _ (seq (for_ (irng1 (un blen (var 1))) (gnm 3) ltB) _)) [some (nD n), some x, some y, none]) = _
  cases hm : mems x with
  | none =>
    rw [hm] at s1
    dsimp only
    unfold ftD nD at *
    generalize (n : Int) = N at *
    simp [var, e, s1]
  | some xs =>
    rw [hm] at s1
    have l1 := mems_len hm
    dsimp only
    obtain ⟨hl, hd⟩ := hx.mem xs hm
    obtain ⟨q1, q2⟩ := forL_first (b := forB (gnm 3) ltB) (I := fun e => ∃ o3, e = [some (nD n), some x, some y, o3]) (p := okD n xs) (R := fun j => .ok (.ret (.tup [.str "deeds", nD j]))) (v := fun i => .int ((i : Nat) : Int)) (fun j => .inl ⟨_, rfl⟩) xs.length 0 [some (nD n), some x, some y, none] ⟨_, rfl⟩ (by
      rintro i e _ hi ⟨o3, rfl⟩
      have hi2 : i < xs.length := by omega
      have q := law_deed_any (hd _ (getD_mem hi2)) (n + i)
      have ix := mems_at hm hi2
      have ad : oadd (nD n) (.int (i : Int)) = .ok (nD (n + i)) := nadd n i
      have hk : nD i = .int (i : Int) := rfl
      unfold okD
      rw [hk]
      generalize xs.getD i .non = z at *
      cases hb : deedB (n + i) z with
      | true =>
        rw [hb] at q
        generalize nD (n + i) = M at *
        generalize nD n = N at *
        generalize (i : Int) = I at *
        exact ⟨fun _ => ⟨[some N, some x, some y, some (.int I)], by simp [ltB, var, ix, ad, q], _, rfl⟩, fun h => (by cases h)⟩
      | false =>
        rw [hb] at q
        generalize nD (n + i) = M at *
        generalize nD n = N at *
        generalize (i : Int) = I at *
        exact ⟨fun h => (by cases h), fun _ => by simp [ltB, var, ix, ad, q]⟩)
    rw [← range_of] at q1 q2
    have hr : irng1 (un blen (var 1)) [some (nD n), some x, some y, none] = .ok ((List.range xs.length).map fun i => .int ((i : Nat) : Int)) := irng1_nat (by simp [var, l1]) (rng_lt (by omega))
    refine Eq.trans (congrArg done ((chk_pass ?_).trans (chk_pass ?_))) ?_
    · generalize nD n = N at *
      simp [var, e]
    · generalize nD n = N at *
      simp [var, s1]
    cases hf : firstF (okD n xs) 0 xs.length with
    | some j =>
      rw [seq_eq, for_eq, hr, bind_ok, q1 j hf]
      rfl
    | none =>
      obtain ⟨e', q, o3, rfl⟩ := q2 hf
      rw [for_pass hr q]
      have r := range_any hy (n + xs.length)
      have ad : oadd (nD n) (.int (xs.length : Int)) = .ok (.int ((n + xs.length : Nat) : Int)) := nadd n xs.length
      dsimp only
      cases hb : belowD (n + xs.length) y with
      | true =>
        rw [hb] at r
        rw [if_pos rfl]
        show _ = Res.ok D.non
        generalize ((n + xs.length : Nat) : Int) = M at *
        generalize (xs.length : Int) = M2 at *
        generalize nD n = N at *
        simp [var, l1, ad, r]
      | false =>
        rw [hb] at r
        rw [if_neg (by simp)]
        show _ = Res.ok (D.tup [.str "out", .int 0])
        generalize ((n + xs.length : Nat) : Int) = M at *
        generalize (xs.length : Int) = M2 at *
        generalize nD n = N at *
        simp [var, l1, ad, r]
def rowV (n : Nat) (xs : List D) (o : D) : D := .ins "Row" [("inputs", nD n), ("deeds", .tup xs), ("out", o)]
theorem row_in {i x y : D} (hi : gd i = true) (h : inD i = false) : m_Row [i, x, y] = eR "inputs" 0 := by
  have e := inputs_any hi
  rw [h] at e
  have r0 : ∀ a b c d e f g, rais "InvalidRow" ["part", "place"] (argC (cst (.str "inputs")) (argC (cst (.int 0)) argN)) [a, b, c, d, e, f, g] = .exc "InvalidRow" (fR "inputs" 0) := fun a b c d e f g => rais_2 rfl rfl
  have key : b_Row_init [some (.ins "Row" []), some i, some x, some y, none, none, none] = .exc "InvalidRow" (fR "inputs" 0) := by
    unfold b_Row_init
    simp [var, e, r0]
  exact made_exc rfl key
def rwB : SM := Py.ite (notT (tst (call m_is_deed (argC (var 6) (argC (bin oadd (var 1) (var 5)) argN))))) (rais "InvalidRow" ["part", "place"] (argC (cst (.str "deeds")) (argC (var 5) argN))) skip
theorem row_any {n : Nat} {x y : D} (h1 : 1 ≤ n) (h3 : n ≤ 3) (hx : TV x) (hy : gd y = true) : m_Row [nD n, x, y] = match fault n x y with
    | some (p, k) => eR p k
    | none => match mems x with
      | some xs => .ok (rowV n xs y)
      | none => .stuck := by
  have e := inputs_any (d := nD n) rfl
  rw [inD_nD h1 h3] at e
  have s1 := as_tuple_any hx.top
  have r0 : ∀ (s : String) a b c d e f g, rais "InvalidRow" ["part", "place"] (argC (cst (.str s)) (argC (cst (.int 0)) argN)) [a, b, c, d, e, f, g] = .exc "InvalidRow" (fR s 0) := fun s a b c d e f g => rais_2 rfl rfl
  unfold fault
  cases hm : mems x with
  | none =>
    rw [hm] at s1
    dsimp only at s1 ⊢
    have h2 : oisN .non = .ok (.bl true) := rfl
    have key : b_Row_init [some (.ins "Row" []), some (nD n), some x, some y, none, none, none] = .exc "InvalidRow" (fR "deeds" 0) := by
      unfold b_Row_init
      generalize nD n = N at *
      simp [var, e, s1, h2, r0]
    exact made_exc rfl key
  | some xs =>
    rw [hm] at s1
    dsimp only at s1 ⊢
    obtain ⟨hl, hd⟩ := hx.mem xs hm
    have h2 : oisN (.tup xs) = .ok (.bl false) := rfl
    obtain ⟨q1, q2⟩ := forL_first (b := forB (gtup [(gnm 5), (gnm 6)]) rwB) (I := fun e => ∃ o5 o6, e = [some (.ins "Row" []), some (nD n), some x, some y, some (.tup xs), o5, o6]) (p := okD n xs) (R := fun j => .exc "InvalidRow" (fR "deeds" j)) (v := fun i => .tup [.int ((i : Nat) : Int), xs.getD i .non]) (fun j => .inr ⟨_, _, rfl⟩) xs.length 0 [some (.ins "Row" []), some (nD n), some x, some y, some (.tup xs), none, none] ⟨_, _, rfl⟩ (by
      rintro i e _ hi ⟨o5, o6, rfl⟩
      have hi2 : i < xs.length := by omega
      have q := is_deed_any (hd _ (getD_mem hi2)) (n + i)
      have ad : oadd (nD n) (nD i) = .ok (nD (n + i)) := nadd n i
      unfold okD fR
      change (_ → ∃ e', forB _ rwB (.tup [nD i, _]) _ = _ ∧ _) ∧ (_ → forB _ rwB (.tup [nD i, _]) _ = _)
      have hr : rais "InvalidRow" ["part", "place"] (argC (cst (.str "deeds")) (argC (var 5) argN)) [some (.ins "Row" []), some (nD n), some x, some y, some (.tup xs), some (nD i), some (xs.getD i .non)] = .exc "InvalidRow" [("place", nD i), ("part", .str "deeds")] := rais_2 rfl rfl
      generalize xs.getD i .non = z at *
      generalize D.tup xs = X at *
      generalize D.ins "Row" [] = S at *
      cases hb : deedB (n + i) z with
      | true =>
        rw [hb] at q
        generalize nD (n + i) = M at *
        generalize nD n = N at *
        generalize nD i = I at *
        exact ⟨fun _ => ⟨[some S, some N, some x, some y, some X, some I, some z], by simp [rwB, var, gtup, gtupL, ad, q], _, _, rfl⟩, fun h => (by cases h)⟩
      | false =>
        rw [hb] at q
        generalize nD (n + i) = M at *
        generalize nD n = N at *
        generalize nD i = I at *
        exact ⟨fun h => (by cases h), fun _ => by simp [rwB, var, gtup, gtupL, ad, q, hr]⟩)
    rw [← enum0] at q1 q2
    have q5 : ienum (var 4) [some (.ins "Row" []), some (nD n), some x, some y, some (.tup xs), none, none] = .ok (enumL 0 xs) := rfl
    have key : b_Row_init [some (.ins "Row" []), some (nD n), some x, some y, none, none, none] = (seq (for_ (ienum (var 4)) (gtup [(gnm 5), (gnm 6)]) rwB) (seq (Py.ite (notT (tst (call m_is_below (argC (var 3) (argC (bin oadd (var 1) (un blen (var 4))) argN))))) (rais "InvalidRow" ["part", "place"] (argC (cst (.str "out")) (argC (cst (.int 0)) argN))) skip)
      (seq (setF 0 ["Row"] "inputs" (var 1)) (seq (setF 0 ["Row"] "deeds" (var 4)) (setF 0 ["Row"] "out" (var 3)))))) [some (.ins "Row" []), some (nD n), some x, some y, some (.tup xs), none, none] := by
      unfold b_Row_init
      refine (chk_pass ?_).trans ((asg_pass (d := .tup xs) ?_).trans ((chk_pass ?_).trans rfl))
      · generalize nD n = N at *
        simp [var, e]
      · generalize nD n = N at *
        simp [var, s1]
      · generalize nD n = N at *
        simp [var, h2]
    cases hf : firstF (okD n xs) 0 xs.length with
    | some j =>
      dsimp only
      exact made_exc rfl (key.trans (by rw [seq_eq, for_eq, q5, bind_ok, q1 j hf]; rfl))
    | none =>
      obtain ⟨e', q, o5, o6, rfl⟩ := q2 hf
      rw [for_pass q5 q] at key
      have r := below_any hy (n + xs.length)
      have l1 : blen (.tup xs) = .ok (nD xs.length) := rfl
      have ad := nadd n xs.length
      dsimp only
      cases hb : belowD (n + xs.length) y with
      | true =>
        rw [hb] at r
        rw [if_pos rfl]
        dsimp only
        refine made_eq (r := [some (nD n), some x, some y, some (.tup xs), o5, o6]) rfl (key.trans ?_)
        generalize nD (n + xs.length) = M at *
        generalize nD xs.length = M2 at *
        generalize D.tup xs = X at *
        generalize nD n = N at *
        simp [var, l1, ad, r, setF, putF]
      | false =>
        rw [hb] at r
        rw [if_neg (by simp)]
        dsimp only
        refine made_exc rfl (key.trans ?_)
        generalize nD (n + xs.length) = M at *
        generalize nD xs.length = M2 at *
        generalize D.tup xs = X at *
        generalize nD n = N at *
        simp [var, l1, ad, r, r0]
/-! ### right deeds are alike themselves -/
theorem below_AL {t k : Nat} {z : D} (h : belowD t z = true) : AL (k + 1) z := by
  cases z <;> first | exact trivial | simp [belowD] at h
theorem deed_AL {k m : Nat} {d : D} (hd : DV d) (h : deedB k d = true) : AL (m + 3) d := by
  cases d with
  | tup xs =>
    obtain ⟨hl, hm⟩ := hd.mem xs rfl
    cases xs with
    | nil => cases h
    | cons x0 vs =>
      cases x0 with
      | str s =>
        change (if s = "count" then cntB k vs else match tab_SIZES.lookup s with | some n => decide ((vs.length : Int) = n) && vs.all (belowD k) | none => false) = true at h
        refine ⟨hl, fun x hx => ?_⟩
        rcases List.mem_cons.mp hx with rfl | hx
        · exact trivial
        by_cases hc : s = "count"
        · rw [if_pos hc] at h
          match vs, h with
          | [p, r, z], h =>
            have h' : (modB p r && partB k z) = true := h
            rw [Bool.and_eq_true] at h'
            simp only [List.mem_cons, List.not_mem_nil, or_false] at hx
            have hm1 := h'.1
            unfold modB at hm1
            cases hp : primeB p with
            | none => rw [hp] at hm1; cases hm1
            | some n =>
              rw [hp] at hm1
              rcases hx with rfl | rfl | rfl
              · cases x <;> first | exact trivial | simp [primeB] at hp
              · exact below_AL hm1
              · cases x with
                | tup ps =>
                  have h2 : (decide (1 ≤ ps.length) && (decide (ps.length ≤ 4) && ps.all (belowD k))) = true := h'.2
                  simp only [Bool.and_eq_true, decide_eq_true_eq] at h2
                  exact ⟨by omega, fun y hy => below_AL (List.all_eq_true.mp h2.2.2 y hy)⟩
                | _ => cases h'.2
        · rw [if_neg hc] at h
          cases hn : tab_SIZES.lookup s with
          | none => rw [hn] at h; cases h
          | some n =>
            rw [hn] at h
            have h' : (decide ((vs.length : Int) = n) && vs.all (belowD k)) = true := h
            rw [Bool.and_eq_true] at h'
            exact below_AL (List.all_eq_true.mp h'.2 x hx)
      | _ => cases h
  | _ => cases h
end Py.U
namespace Py.U
open PySem
theorem mems_tup {v : D} {xs : List D} (h : mems v = some xs) : btuple v = .ok (.tup xs) := by
  cases v <;> simp [mems] at h <;> subst h <;> rfl
def amB : SM := Py.ite (andT (tst (call m_law_is_deed (argC (bin oidx (var 1) (var 2)) (argC (bin oadd (cst (.int 3)) (var 2)) argN)))) (notT (tst (call (m_law_alike 12) (argC (bin oidx (var 0) (var 2)) (argC (bin oidx (var 1) (var 2)) argN)))))) (ret (cst (.bl false))) skip
theorem members_ok {xs : List D} (hl : xs.length ≤ 900) (hd : ∀ x ∈ xs, DV x) : m_law_alike_members [.lst xs, .tup xs] = .ok (.bl true) := by
  have q := forR_inv (b := forB (gnm 2) amB) (n := xs.length) (e := [some (.lst xs), some (.tup xs), none]) (fun _ E => ∃ o, E = [some (.lst xs), some (.tup xs), o]) ⟨none, rfl⟩ (by
    rintro i E hi ⟨o, rfl⟩
    have i1 : oidx (.lst xs) (.int (i : Int)) = .ok xs[i] := oidx_l (by simp [hi])
    have i2 : oidx (.tup xs) (.int (i : Int)) = .ok xs[i] := oidx_t (by simp [hi])
    have hx := hd xs[i] (List.getElem_mem hi)
    have q := law_deed_any hx (3 + i)
    have ad : oadd (.int 3) (.int (i : Int)) = .ok (nD (3 + i)) := nadd 3 i
    refine ⟨[some (.lst xs), some (.tup xs), some (.int (i : Int))], ?_, _, rfl⟩
    cases hb : deedB (3 + i) xs[i] with
    | true =>
      have al := alike_refl 12 _ (deed_AL (m := 9) hx hb)
      rw [hb] at q
      unfold amB
      generalize m_law_alike 12 = F at *
      generalize xs[i] = x at *
      generalize D.tup xs = X at *
      generalize D.lst xs = Y at *
      generalize nD (3 + i) = M at *
      generalize (i : Int) = I at *
      simp [var, i1, i2, ad, q, al]
    | false =>
      rw [hb] at q
      unfold amB
      generalize m_law_alike 12 = F at *
      generalize xs[i] = x at *
      generalize D.tup xs = X at *
      generalize D.lst xs = Y at *
      generalize nD (3 + i) = M at *
      generalize (i : Int) = I at *
      simp [var, i2, ad, q])
  obtain ⟨e', q1, o, rfl⟩ := q
  have l1 : blen (.lst xs) = .ok (nD xs.length) := rfl
  have l2 : blen (.tup xs) = .ok (nD xs.length) := rfl
  have n1 : Py.one (nD xs.length) (nD xs.length) = .ok (.bl false) := by simp [nD]
  have hr : irng1 (un blen (var 1)) [some (.lst xs), some (.tup xs), none] = .ok ((List.range xs.length).map fun i => .int ((i : Nat) : Int)) := irng1_nat (by simp [var]) (rng_lt (by omega))
  unfold m_law_alike_members
  rw [fn2]
  show done (seq _ (seq (for_ (irng1 (un blen (var 1))) (gnm 2) amB) _) [some (.lst xs), some (.tup xs), none]) = _
  refine (congrArg done ((chk_pass ?_).trans ?_)).trans (done_ret (.bl true))
  · generalize nD xs.length = L at *
    simp [var, l1, l2, n1]
  · rw [for_pass hr q1]
    rfl
theorem islst {v : D} (h : gd v = true) : oisi CS [.lst] v = .ok (.bl (isI .lst v)) := by
  have := isi_any (ts := [.lst]) h rfl
  simpa using this
theorem kept_ok {v : D} (h : gd v = true) {a0 a2 a3 a5 a6 : Option D} : (Py.ite (tst (un (oisi CS [.lst, .tup]) (var 1))) (asg (gnm 4) (un btuple (var 1))) skip) [a0, some v, a2, a3, some (.tup []), a5, a6] = .ok (.next [a0, some v, a2, a3, some (.tup ((mems v).getD [])), a5, a6]) := by
  have s := seq_any h
  cases hm : mems v with
  | none =>
    rw [hm] at s
    simp [var, s]
  | some xs =>
    rw [hm] at s
    have e := mems_tup hm
    simp [var, s, e]
theorem made_bad {i x y : D} (hx : TV x) {p : String} {k : Nat} (h1 : m_law_fault [i, x, y] = .ok (.tup [.str p, nD k])) (h2 : m_Row [i, x, y] = eR p k) : m_law_made_rightly [i, x, y] = .ok (.bl true) := by
  have e1 : oidx (.tup [.str p, nD k]) (.int 0) = .ok (.str p) := rfl
  have e2 : oidx (.tup [.str p, nD k]) (.int 1) = .ok (nD k) := rfl
  have e3 : oisN (.tup [.str p, nD k]) = .ok (.bl false) := rfl
  have e4 := alike_refl 12 (nD k) trivial
  have e5 := alike_refl 12 (.str p) trivial
  have e6 := islst hx.top
  have x1 : ∀ e, xis ES EALL "InvalidRow" ["InvalidRow"] e = .ok (.bl true) := fun _ => rfl
  have x2 : ∀ e, xis ES EALL "InvalidRow" ["ValueError"] e = .ok (.bl true) := fun _ => rfl
  have x3 : ∀ e, xis ES EALL "InvalidRow" ["InvalidNumber", "InvalidWords", "InvalidReading", "InvalidMachine", "InvalidMarks", "InvalidKind"] e = .ok (.bl false) := fun _ => rfl
  have x4 : ∀ e, xis ES EALL "InvalidRow" ["InvalidPrimes", "InvalidText", "InvalidCommand", "Undefined", "NothingToDo", "NothingKept"] e = .ok (.bl false) := fun _ => rfl
  have x5 : ∀ e, xfld ES EFL "InvalidRow" "part" (fR p k) e = .ok (.str p) := fun _ => rfl
  have x6 : ∀ e, xfld ES EFL "InvalidRow" "place" (fR p k) e = .ok (nD k) := fun _ => rfl
  have mem : isI .lst x = true → m_law_alike_members [x, .tup ((mems x).getD [])] = .ok (.bl true) := fun hl => by
    cases x with
    | lst xs =>
      obtain ⟨h1, h2⟩ := hx.mem xs rfl
      exact members_ok h1 h2
    | _ => simp [isI] at hl
  unfold eR at h2
  unfold m_law_made_rightly
  rw [fn3]
  unfold b__law_made_rightly
  refine (congrArg done ((asg_pass (d := .tup [.str p, nD k]) ?_).trans ?_)).trans (done_ret (.bl true))
  · simp [var, h1]
  refine (asg_pass (d := .tup []) (by simp)).trans ?_
  refine (seq_next (kept_ok hx.top)).trans ?_
  rw [seq_eq]
  rw [tryE_exc (c := "InvalidRow") (fs := fR p k) (d := .bl true) ?_ rfl ?_]
  · rfl
  · simp [var, h2]
  · generalize (mems x).getD [] = KP at *
    generalize m_law_alike 12 = F at *
    generalize fR p k = FF at *
    generalize D.tup [.str p, nD k] = DU at *
    generalize nD k = K at *
    cases hl : isI .lst x with
    | true =>
      rw [hl] at e6
      have e7 := mem hl
      simp [var, e1, e2, e3, e4, e5, e6, e7, x1, x2, x3, x4, x5, x6]
    | false =>
      rw [hl] at e6
      simp [var, e1, e2, e3, e4, e5, e6, x1, x2, x3, x4, x5, x6]
theorem made_good {n : Nat} {x y : D} {xs : List D} (hg : gd x = true) (h1 : m_law_fault [nD n, x, y] = .ok .non) (h2 : m_Row [nD n, x, y] = .ok (rowV n xs y)) (hx : mems x = some xs) (ax : AL 12 (.tup xs)) (ay : AL 12 y) : m_law_made_rightly [nD n, x, y] = .ok (.bl true) := by
  have e1 : oattr ["Row"] "inputs" (rowV n xs y) = .ok (nD n) := rfl
  have e2 : oattr ["Row"] "deeds" (rowV n xs y) = .ok (.tup xs) := rfl
  have e3 : oattr ["Row"] "out" (rowV n xs y) = .ok y := rfl
  have e5 := mems_tup hx
  have e6 := alike_refl 12 (nD n) trivial
  have e7 := alike_refl 12 _ ax
  have e8 := alike_refl 12 _ ay
  have e9 : oisi CS [.cls "Row"] (rowV n xs y) = .ok (.bl true) := rfl
  have ea : onotN .non = .ok (.bl false) := rfl
  have kp := fun {a0 a2 a3 a5 a6} => kept_ok (v := x) hg (a0 := a0) (a2 := a2) (a3 := a3) (a5 := a5) (a6 := a6)
  rw [hx] at kp
  unfold m_law_made_rightly
  rw [fn3]
  unfold b__law_made_rightly
  refine (congrArg done ((asg_pass (d := .non) ?_).trans ?_)).trans (done_ret (.bl true))
  · simp [var, h1]
  refine (asg_pass (d := .tup []) (by simp)).trans ?_
  refine (seq_next kp).trans ?_
  refine (seq_next (tryE_ok (e' := [some (nD n), some x, some y, some .non, some (.tup xs), some (rowV n xs y), none]) ?_)).trans ?_
  · generalize nD n = N at *
    generalize rowV n xs y = M at *
    simp [var, h2]
  · generalize m_law_alike 12 = F at *
    generalize rowV n xs y = M at *
    generalize D.tup xs = X at *
    generalize nD n = N at *
    simp [var, e1, e2, e3, e5, e6, e7, e8, e9, ea]
theorem made_rightly {i x y : D} (hi : gd i = true) (hx : TV x) (hy : gd y = true) : m_law_made_rightly [i, x, y] = .ok (.bl true) := by
  cases hin : inD i with
  | false => exact made_bad hx (fault_in hi hin) (row_in hi hin)
  | true =>
    obtain ⟨n, rfl, h1, h3⟩ := inD_nat hin
    have f := fault_ok h1 h3 hx hy
    have m := row_any h1 h3 hx hy
    cases hf : fault n x y with
    | some pk =>
      obtain ⟨p, k⟩ := pk
      rw [hf] at f m
      exact made_bad hx f m
    | none =>
      rw [hf] at f m
      dsimp only at f m
      unfold fault at hf
      cases hm : mems x with
      | none =>
        rw [hm] at hf
        cases hf
      | some xs =>
        rw [hm] at hf m
        dsimp only at hf m
        obtain ⟨hl, hxl⟩ := hx.mem xs hm
        cases hf1 : firstF (okD n xs) 0 xs.length with
        | some j =>
          rw [hf1] at hf
          cases hf
        | none =>
          rw [hf1] at hf
          dsimp only at hf
          cases hb : belowD (n + xs.length) y with
          | false =>
            rw [hb] at hf
            simp at hf
          | true =>
            refine made_good hx.top f m hm ⟨by omega, fun z hz => ?_⟩ (below_AL hb)
            obtain ⟨j, hj, rfl⟩ := List.mem_iff_getElem.mp hz
            have := firstF_none hf1 j (by omega) (by omega)
            unfold okD at this
            rw [List.getD_eq_getElem?_getD, List.getElem?_eq_getElem hj] at this
            exact deed_AL (hxl _ (List.getElem_mem hj)) this
end Py.U
namespace Py.U
open PySem
/-! ### deeds spoilt -/
structure DrL (L : D) (d0 d1 d2 d3 d4 d5 d6 d7 d8 : Int) : Prop where
  i0 : oidx L (.int 0) = .ok (.int d0)
  i1 : oidx L (.int 1) = .ok (.int d1)
  i2 : oidx L (.int 2) = .ok (.int d2)
  i3 : oidx L (.int 3) = .ok (.int d3)
  i4 : oidx L (.int 4) = .ok (.int d4)
  i5 : oidx L (.int 5) = .ok (.int d5)
  i6 : oidx L (.int 6) = .ok (.int d6)
  i7 : oidx L (.int 7) = .ok (.int d7)
  i8 : oidx L (.int 8) = .ok (.int d8)
  b1 : 0 ≤ d1 ∧ d1 < 10
  b8 : 0 ≤ d8 ∧ d8 < 2
theorem MV.non {d : D} (h : gd d = true) (h2 : isI .tup d = false) : MV d := ⟨h, fun ys e => by
  rw [e] at h2
  cases h2⟩
theorem MV.tup {ys : List D} (hz : ys.length ≤ 1000) (h : ∀ y ∈ ys, gd y = true) : MV (.tup ys) := ⟨rfl, fun zs e => by
  cases e
  exact ⟨hz, h⟩⟩
theorem DV.non {d : D} (h : gd d = true) (h2 : isI .tup d = false) : DV d := ⟨h, fun ys e => by
  rw [e] at h2
  cases h2⟩
theorem DV.tup {ys : List D} (hz : ys.length ≤ 1000) (h : ∀ y ∈ ys, MV y) : DV (.tup ys) := ⟨rfl, fun zs e => by
  cases e
  exact ⟨hz, h⟩⟩
theorem one_m {P : D → Prop} {x : D} (h : P x) : ∀ y ∈ [x], P y := fun y hy => by
  rw [List.mem_singleton.mp hy]
  exact h
theorem nil_m {P : D → Prop} : ∀ y ∈ ([] : List D), P y := fun y hy => by cases hy
theorem app_m {P : D → Prop} {xs ys : List D} (h : ∀ x ∈ xs, P x) (h2 : ∀ x ∈ ys, P x) : ∀ x ∈ xs ++ ys, P x := fun x hx => (List.mem_append.mp hx).elim (h x) (h2 x)
theorem cons_m {P : D → Prop} {x : D} {xs : List D} (h : P x) (h2 : ∀ x ∈ xs, P x) : ∀ y ∈ x :: xs, P y := fun y hy => by
  rcases List.mem_cons.mp hy with rfl | q
  · exact h
  · exact h2 y q
theorem cut_m {P : D → Prop} {xs : List D} {lo hi : Option Int} (h : ∀ x ∈ xs, P x) : ∀ x ∈ cut xs lo hi, P x := fun x hx => h x (cut_mem hx)
theorem gd_nD (ns : List Nat) : ∀ x ∈ ns.map nD, gd x = true := fun x hx => by
  obtain ⟨n, _, rfl⟩ := List.mem_map.mp hx
  rfl
def row1 : D := rowD 1 [] 0
theorem made_row1 : m_Row [.int 1, .lst [], .int 0] = .ok row1 := row_made2 (n := 1) (xs := []) (out := 0) (by decide) (by decide) (fun k h => by simp at h) (by simp) (by simp)
/-- a deed is a tuple of a name and of what stands behind it -/
theorem deed_shape {k : Nat} {x : Deed} (h : x.ok k) : ∃ vs, x.d = .tup (.str x.name :: vs) ∧ vs.length ≤ 3 ∧ ∀ v ∈ vs, MV v := by
  cases x with
  | count p r ps => exact ⟨[nD p, nD r, .tup (ps.map nD)], rfl, by simp, cons_m (.non rfl rfl) (cons_m (.non rfl rfl) (one_m (.tup (by
      have := h.2.2.2.1
      simp
      omega) (gd_nD ps))))⟩
  | zero => exact ⟨[], rfl, by simp, nil_m⟩
  | ones => exact ⟨[], rfl, by simp, nil_m⟩
  | inv a => exact ⟨[nD a], rfl, by simp, one_m (.non rfl rfl)⟩
  | shift a => exact ⟨[nD a], rfl, by simp, one_m (.non rfl rfl)⟩
  | minus a => exact ⟨[nD a], rfl, by simp, one_m (.non rfl rfl)⟩
  | and a b => exact ⟨[nD a, nD b], rfl, by simp, cons_m (.non rfl rfl) (one_m (.non rfl rfl))⟩
  | or a b => exact ⟨[nD a, nD b], rfl, by simp, cons_m (.non rfl rfl) (one_m (.non rfl rfl))⟩
  | xor a b => exact ⟨[nD a, nD b], rfl, by simp, cons_m (.non rfl rfl) (one_m (.non rfl rfl))⟩
  | add a b => exact ⟨[nD a, nD b], rfl, by simp, cons_m (.non rfl rfl) (one_m (.non rfl rfl))⟩
  | sub a b => exact ⟨[nD a, nD b], rfl, by simp, cons_m (.non rfl rfl) (one_m (.non rfl rfl))⟩
theorem deed_DV {k : Nat} {x : Deed} (h : x.ok k) : DV x.d := by
  obtain ⟨vs, e, hl, hv⟩ := deed_shape h
  rw [e]
  exact .tup (by simp; omega) (cons_m (.non rfl rfl) hv)
section
variable {L : D} {d0 d1 d2 d3 d4 d5 d6 d7 d8 : Int}
theorem spoilt_number_any (h : DrL L d0 d1 d2 d3 d4 d5 d6 d7 d8) (t : Nat) : ∃ v, m_law_spoilt_number [nD t, L] = .ok v ∧ MV v := by
  obtain ⟨s, hs, q1⟩ := oidx_mem (xs := [.non, row1, .lst [.lst []], .str "", .tup [.non], .tup [.lst []]]) (i := d3 % 6) (by omega) (by simp; omega)
  have ms : MV s := by
    simp only [List.mem_cons, List.not_mem_nil, or_false] at hs
    rcases hs with rfl | rfl | rfl | rfl | rfl | rfl
    · exact .non rfl rfl
    · exact .non rfl rfl
    · exact .non rfl rfl
    · exact .non rfl rfl
    · exact .tup (by simp) (one_m rfl)
    · exact .tup (by simp) (one_m rfl)
  obtain ⟨v, hv, q2⟩ := oidx_mem (xs := [.int (-1), .int (t : Int), .int ((t : Int) + d3), .bl true, .bl false, s, .str "0", .tup [.int 0], .lst [.int 0], .int (-1000000000000000000000000000000)]) h.b1.1 (by simp; exact h.b1.2)
  refine ⟨v, ?_, ?_⟩
  · have m := omod_ii (i := d3) (j := 6) (by decide)
    have mr := made_row1
    have o30 := opow30
    have i1 := h.i1
    have i3 := h.i3
    unfold nD
    generalize row1 = R at *
    generalize (t : Int) = T at *
    unfold m_law_spoilt_number
    rw [fn2]
    unfold b__law_spoilt_number
    simp [var, i1, i3, m, mr, o30, q1, q2]
  · simp only [List.mem_cons, List.not_mem_nil, or_false] at hv
    rcases hv with rfl | rfl | rfl | rfl | rfl | rfl | rfl | rfl | rfl | rfl
    · exact .non rfl rfl
    · exact .non rfl rfl
    · exact .non rfl rfl
    · exact .non rfl rfl
    · exact .non rfl rfl
    · exact ms
    · exact .non rfl rfl
    · exact .tup (by simp) (one_m rfl)
    · exact .non rfl rfl
    · exact .non rfl rfl
theorem s4_2 {a b c d : D} : oslc (.tup [a, b, c, d]) (some 2) none = .ok (.tup [c, d]) := rfl
theorem s4_t2 {a b c d : D} : oslc (.tup [a, b, c, d]) none (some 2) = .ok (.tup [a, b]) := rfl
theorem s4_t3 {a b c d : D} : oslc (.tup [a, b, c, d]) none (some 3) = .ok (.tup [a, b, c]) := rfl
theorem spoilt_count_any (h : DrL L d0 d1 d2 d3 d4 d5 d6 d7 d8) (t : Nat) {k p r : Nat} {ps : List Nat} (hx : (Deed.count p r ps).ok k) : ∃ v, m_law_spoilt_count [(Deed.count p r ps).d, nD t, L] = .ok v ∧ DV v := by
  obtain ⟨hp, hr, hl1, hl4, ha⟩ := hx
  have hd : (Deed.count p r ps).d = .tup [.str "count", nD p, nD r, .tup (ps.map nD)] := rfl
  rw [hd]
  have gp : ∀ x ∈ ps.map nD, gd x = true := gd_nD ps
  have lp : (ps.map nD).length ≤ 4 := by simpa using hl4
  have lp1 : 1 ≤ (ps.map nD).length := by simpa using hl1
  have MP : MV (.tup (ps.map nD)) := .tup (by omega) gp
  have x1 : oidx (.tup [.str "count", nD p, nD r, .tup (ps.map nD)]) (.int 1) = .ok (nD p) := oidx_t (k := 1) rfl
  have x3 : oidx (.tup [.str "count", nD p, nD r, .tup (ps.map nD)]) (.int 3) = .ok (.tup (ps.map nD)) := oidx_t (k := 3) rfl
  have t2 := @s4_2 (.str "count") (nD p) (nD r) (.tup (ps.map nD))
  have u2 := @s4_t2 (.str "count") (nD p) (nD r) (.tup (ps.map nD))
  have u3 := @s4_t3 (.str "count") (nD p) (nD r) (.tup (ps.map nD))
  have i1 := h.i1
  have i2 := h.i2
  have i3 := h.i3
  have i4 := h.i4
  generalize hPS : ps.map nD = PS at *
  generalize hX : D.tup [.str "count", nD p, nD r, .tup PS] = X at *
  by_cases c0 : d4 = 0
  · subst c0
    obtain ⟨s, hs, q1⟩ := oidx_mem (xs := [.non, .lst [.int 2], row1, .tup [.lst []]]) (i := d3 % 4) (by omega) (by simp; omega)
    have ms : MV s := by
      simp only [List.mem_cons, List.not_mem_nil, or_false] at hs
      rcases hs with rfl | rfl | rfl | rfl
      · exact .non rfl rfl
      · exact .non rfl rfl
      · exact .non rfl rfl
      · exact .tup (by simp) (one_m rfl)
    obtain ⟨v, hv, q2⟩ := oidx_mem (xs := [.int 4, .int 0, .int 1, .int (7 + d3 % 7), .bl true, .int (-2), s, .str "2", .tup [.int 2], .int 6]) h.b1.1 (by simp; exact h.b1.2)
    have mv : MV v := by
      simp only [List.mem_cons, List.not_mem_nil, or_false] at hv
      rcases hv with rfl | rfl | rfl | rfl | rfl | rfl | rfl | rfl | rfl | rfl
      · exact .non rfl rfl
      · exact .non rfl rfl
      · exact .non rfl rfl
      · exact .non rfl rfl
      · exact .non rfl rfl
      · exact .non rfl rfl
      · exact ms
      · exact .non rfl rfl
      · exact .tup (by simp) (one_m rfl)
      · exact .non rfl rfl
    refine ⟨.tup [.str "count", v, nD r, .tup PS], ?_, .tup (by simp) (cons_m (.non rfl rfl) (cons_m mv (cons_m (.non rfl rfl) (one_m MP))))⟩
    have m := omod_ii (i := d3) (j := 4) (by decide)
    have m7 := omod_ii (i := d3) (j := 7) (by decide)
    have mr := made_row1
    have j : oadd (.tup [.str "count", v]) (.tup [nD r, .tup PS]) = .ok (.tup [.str "count", v, nD r, .tup PS]) := oadd_tt (le_sz (by simp))
    clear hd x1 x3 u2 u3 hX
    generalize D.tup [nD r, .tup PS] = T1 at *
    generalize D.tup [.str "count", v, nD r, .tup PS] = T2 at *
    generalize row1 = R at *
    generalize nD t = T at *
    unfold m_law_spoilt_count
    rw [fn3]
    unfold b__law_spoilt_count
    simp [var, i1, i3, i4, m, m7, mr, q1, q2, slc_eq, bnd_some, bnd_none, t2, j]
  by_cases c1 : d4 = 1
  · subst c1
    obtain ⟨v, hv, q2⟩ := oidx_mem (xs := [nD p, .int (-1), .bl true, .bl false, .non, .str "0", .tup [.int 0], .int ((p : Int) + d3), .lst [.int 1], .int (-5)]) h.b1.1 (by simp; exact h.b1.2)
    have mv : MV v := by
      simp only [List.mem_cons, List.not_mem_nil, or_false] at hv
      rcases hv with rfl | rfl | rfl | rfl | rfl | rfl | rfl | rfl | rfl | rfl
      · exact .non rfl rfl
      · exact .non rfl rfl
      · exact .non rfl rfl
      · exact .non rfl rfl
      · exact .non rfl rfl
      · exact .non rfl rfl
      · exact .tup (by simp) (one_m rfl)
      · exact .non rfl rfl
      · exact .non rfl rfl
      · exact .non rfl rfl
    refine ⟨.tup [.str "count", nD p, v, .tup PS], ?_, .tup (by simp) (cons_m (.non rfl rfl) (cons_m (.non rfl rfl) (cons_m mv (one_m MP))))⟩
    have j : oadd (.tup [.str "count", nD p]) (.tup [v, .tup PS]) = .ok (.tup [.str "count", nD p, v, .tup PS]) := oadd_tt (le_sz (by simp))
    have jp : oadd (nD p) (.int d3) = .ok (.int ((p : Int) + d3)) := rfl
    clear hd t2 u3 hX
    generalize D.tup [.str "count", nD p] = T1 at *
    generalize D.tup [.str "count", nD p, v, .tup PS] = T2 at *
    generalize (p : Int) + d3 = PD at *
    generalize nD p = P at *
    generalize D.tup PS = PT at *
    generalize nD t = T at *
    unfold m_law_spoilt_count
    rw [fn3]
    unfold b__law_spoilt_count
    simp [var, i1, i3, i4, x1, x3, q2, slc_eq, bnd_some, bnd_none, u2, j, jp]
  by_cases c2 : d4 = 2
  · subst c2
    obtain ⟨z, zs, rfl⟩ : ∃ z zs, PS = z :: zs := by
      cases PS with
      | nil => simp at lp1
      | cons z zs => exact ⟨z, zs, rfl⟩
    have gz := gp z List.mem_cons_self
    have zint : ∃ a : Nat, z = nD a := by
      have : z ∈ ps.map nD := by rw [hPS]; exact List.mem_cons_self
      obtain ⟨a, _, rfl⟩ := List.mem_map.mp this
      exact ⟨a, rfl⟩
    obtain ⟨za, rfl⟩ := zint
    obtain ⟨v, hv, q2⟩ := oidx_mem (xs := [.lst (nD za :: zs), .tup [], .lst [], nD za, .non, .tup ((nD za :: zs) ++ [.int 0, .int 0, .int 0, .int 0]), .str "0", .tup [.tup (nD za :: zs)], .bl true, .tup [.int 0, .int 0, .int 0, .int 0, .int 0]]) h.b1.1 (by simp; exact h.b1.2)
    have mv : MV v := by
      simp only [List.mem_cons, List.not_mem_nil, or_false] at hv
      rcases hv with rfl | rfl | rfl | rfl | rfl | rfl | rfl | rfl | rfl | rfl
      · exact .non rfl rfl
      · exact .tup (by simp) nil_m
      · exact .non rfl rfl
      · exact .non rfl rfl
      · exact .non rfl rfl
      · exact .tup (by rw [List.length_append]; simp; simp at lp; omega) (app_m gp (cons_m rfl (cons_m rfl (cons_m rfl (one_m rfl)))))
      · exact .non rfl rfl
      · exact .tup (by simp) (one_m rfl)
      · exact .non rfl rfl
      · exact .tup (by simp) (cons_m rfl (cons_m rfl (cons_m rfl (cons_m rfl (one_m rfl)))))
    refine ⟨.tup [.str "count", nD p, nD r, v], ?_, .tup (by simp) (cons_m (.non rfl rfl) (cons_m (.non rfl rfl) (cons_m (.non rfl rfl) (one_m mv))))⟩
    have j : oadd (.tup [.str "count", nD p, nD r]) (.tup [v]) = .ok (.tup [.str "count", nD p, nD r, v]) := oadd_tt (le_sz (by simp))
    have j2 : oadd (.tup (nD za :: zs)) (.tup [.int 0, .int 0, .int 0, .int 0]) = .ok (.tup ((nD za :: zs) ++ [.int 0, .int 0, .int 0, .int 0])) := oadd_tt (le_sz (by simp; simp at lp; omega))
    have j3 : oidx (.tup (nD za :: zs)) (.int 0) = .ok (nD za) := oidx_t (k := 0) rfl
    have j4 : blist (.tup (nD za :: zs)) = .ok (.lst (nD za :: zs)) := rfl
    have j5 : otrep (.tup [.int 0]) (.int 5) = .ok (.tup [.int 0, .int 0, .int 0, .int 0, .int 0]) := rfl
    clear hd t2 u2 hX
    generalize D.tup [.str "count", nD p, nD r] = T1 at *
    generalize D.tup [.str "count", nD p, nD r, v] = T2 at *
    generalize D.tup ((nD za :: zs) ++ [.int 0, .int 0, .int 0, .int 0]) = T3 at *
    generalize D.tup (nD za :: zs) = PT at *
    generalize D.lst (nD za :: zs) = PL at *
    generalize nD za = ZA at *
    generalize nD t = T at *
    unfold m_law_spoilt_count
    rw [fn3]
    unfold b__law_spoilt_count
    simp [var, i1, i4, x3, q2, slc_eq, bnd_some, bnd_none, u3, j, j2, j3, j4, j5]
  obtain ⟨sn, hsn, msn⟩ := spoilt_number_any h t
  obtain ⟨at_, hat, hae⟩ := mod_nat d2 (n := PS.length) (by omega)
  have hm : omod (.int d2) (.int (PS.length : Int)) = .ok (.int (at_ : Int)) := by rw [omod_ii (by omega), hae]
  have l : blen (.tup PS) = .ok (.int (PS.length : Int)) := rfl
  have l3 := cut_len (xs := PS) (lo := none) (hi := some (at_ : Int))
  have l4 := cut_len (xs := PS) (lo := some ((at_ : Int) + 1)) (hi := none)
  have s1 : oslc (.tup PS) none (some (at_ : Int)) = .ok (.tup (cut PS none (some (at_ : Int)))) := rfl
  have s2 : oslc (.tup PS) (some ((at_ : Int) + 1)) none = .ok (.tup (cut PS (some ((at_ : Int) + 1)) none)) := rfl
  have j1 : oadd (.tup (cut PS none (some (at_ : Int)))) (.tup [sn]) = .ok (.tup (cut PS none (some (at_ : Int)) ++ [sn])) := oadd_tt (le_sz (by simp only [List.length_singleton]; omega))
  have j2 : oadd (.tup (cut PS none (some (at_ : Int)) ++ [sn])) (.tup (cut PS (some ((at_ : Int) + 1)) none)) = .ok (.tup ((cut PS none (some (at_ : Int)) ++ [sn]) ++ cut PS (some ((at_ : Int) + 1)) none)) := oadd_tt (le_sz (by simp only [List.length_append, List.length_singleton]; omega))
  have mt : MV (.tup ((cut PS none (some (at_ : Int)) ++ [sn]) ++ cut PS (some ((at_ : Int) + 1)) none)) := .tup (by simp only [List.length_append, List.length_singleton]; omega) (app_m (app_m (cut_m gp) (one_m msn.top)) (cut_m gp))
  have j3 : oadd (.tup [.str "count", nD p, nD r]) (.tup [.tup ((cut PS none (some (at_ : Int)) ++ [sn]) ++ cut PS (some ((at_ : Int) + 1)) none)]) = .ok (.tup [.str "count", nD p, nD r, .tup ((cut PS none (some (at_ : Int)) ++ [sn]) ++ cut PS (some ((at_ : Int) + 1)) none)]) := oadd_tt (le_sz (by simp))
  refine ⟨.tup [.str "count", nD p, nD r, .tup ((cut PS none (some (at_ : Int)) ++ [sn]) ++ cut PS (some ((at_ : Int) + 1)) none)], ?_, .tup (by simp) (cons_m (.non rfl rfl) (cons_m (.non rfl rfl) (cons_m (.non rfl rfl) (one_m mt))))⟩
  clear hd t2 u2 hX mt l3 l4
  generalize D.tup [.str "count", nD p, nD r, .tup ((cut PS none (some (at_ : Int)) ++ [sn]) ++ cut PS (some ((at_ : Int) + 1)) none)] = T4 at *
  generalize D.tup ((cut PS none (some (at_ : Int)) ++ [sn]) ++ cut PS (some ((at_ : Int) + 1)) none) = T3 at *
  generalize D.tup (cut PS none (some (at_ : Int)) ++ [sn]) = T2 at *
  generalize D.tup (cut PS none (some (at_ : Int))) = R2 at *
  generalize D.tup (cut PS (some ((at_ : Int) + 1)) none) = R3 at *
  generalize D.tup [.str "count", nD p, nD r] = R4 at *
  generalize (PS.length : Int) = Z at *
  generalize D.tup PS = PT at *
  generalize (at_ : Int) = A at *
  generalize nD t = T at *
  unfold m_law_spoilt_count
  rw [fn3]
  unfold b__law_spoilt_count
  simp [var, i2, i4, c0, c1, c2, x3, slc_eq, bnd_some, bnd_none, u3, l, hm, s1, s2, j1, j2, j3, hsn]
end
end Py.U
namespace Py.U
open PySem
section
variable {L : D} {d0 d1 d2 d3 d4 d5 d6 d7 d8 : Int}
theorem spoilt_any (h : DrL L d0 d1 d2 d3 d4 d5 d6 d7 d8) (t : Nat) {k : Nat} {x : Deed} (hx : x.ok k) : ∃ v, m_law_spoilt [x.d, nD t, L] = .ok v ∧ DV v := by
  obtain ⟨vs, hd, hl, hv⟩ := deed_shape hx
  have hDV := deed_DV hx
  have i0 := h.i0
  have i2 := h.i2
  have i3 := h.i3
  have cnt : x.name = "count" → ∃ p r ps, x = .count p r ps := fun e => by
    cases x <;> first | exact ⟨_, _, _, rfl⟩ | simp [Deed.name] at e
  have x0 : oidx x.d (.int 0) = .ok (.str x.name) := deed_name x
  have EV : ∀ y ∈ D.str x.name :: vs, MV y := cons_m (.non rfl rfl) hv
  have GV : ∀ y ∈ D.str x.name :: vs, gd y = true := fun y hy => (EV y hy).top
  generalize hn : x.name = nm at *
  by_cases c0 : d0 = 0
  · subst c0
    obtain ⟨v, hv2, q⟩ := oidx_mem (xs := [.lst (.str nm :: vs), .non, .int 3, .str "zero", .tup [], .bl true, .str nm, .tup [.tup (.str nm :: vs)], .lst [.str "ones"], .tup [.int 0], .tup [.lst [.int 0]], .tup [.int 0, .non], row1, .tup [row1], .tup [.int 0, .tup [.lst []]], .tup [.lst []], .lst [.lst []], .tup [.non], .tup [.str "count"], .int (-1)]) (i := d3 % 20) (by omega) (by simp; omega)
    refine ⟨v, ?_, ?_⟩
    · rw [hd] at x0 ⊢
      have m := omod_ii (i := d3) (j := 20) (by decide)
      have mr := made_row1
      have j : oadd (.lst [.lst (.str nm :: vs), .non, .int 3, .str "zero", .tup [], .bl true, .str nm, .tup [.tup (.str nm :: vs)], .lst [.str "ones"], .tup [.int 0], .tup [.lst [.int 0]], .tup [.int 0, .non], row1, .tup [row1]]) (.lst [.tup [.int 0, .tup [.lst []]], .tup [.lst []], .lst [.lst []], .tup [.non], .tup [.str "count"], .int (-1)]) = .ok (.lst [.lst (.str nm :: vs), .non, .int 3, .str "zero", .tup [], .bl true, .str nm, .tup [.tup (.str nm :: vs)], .lst [.str "ones"], .tup [.int 0], .tup [.lst [.int 0]], .tup [.int 0, .non], row1, .tup [row1], .tup [.int 0, .tup [.lst []]], .tup [.lst []], .lst [.lst []], .tup [.non], .tup [.str "count"], .int (-1)]) := oadd_ll (le_sz (by simp))
      have bl : blist (.tup (.str nm :: vs)) = .ok (.lst (.str nm :: vs)) := rfl
      generalize D.lst (.str nm :: vs) = XL at *
      generalize D.tup (.str nm :: vs) = X at *
      generalize row1 = R at *
      generalize nD t = T at *
      unfold m_law_spoilt
      rw [fn3]
      unfold b__law_spoilt
      simp [var, i0, i3, m, mr, x0, bl, j, q]
    · simp only [List.mem_cons, List.not_mem_nil, or_false] at hv2
      rcases hv2 with rfl | rfl | rfl | rfl | rfl | rfl | rfl | rfl | rfl | rfl | rfl | rfl | rfl | rfl | rfl | rfl | rfl | rfl | rfl | rfl
      · exact .non rfl rfl
      · exact .non rfl rfl
      · exact .non rfl rfl
      · exact .non rfl rfl
      · exact .tup (by simp) nil_m
      · exact .non rfl rfl
      · exact .non rfl rfl
      · exact .tup (by simp) (one_m (.tup (by simp; omega) GV))
      · exact .non rfl rfl
      · exact .tup (by simp) (one_m (.non rfl rfl))
      · exact .tup (by simp) (one_m (.non rfl rfl))
      · exact .tup (by simp) (cons_m (.non rfl rfl) (one_m (.non rfl rfl)))
      · exact .non rfl rfl
      · exact .tup (by simp) (one_m (.non rfl rfl))
      · exact .tup (by simp) (cons_m (.non rfl rfl) (one_m (.tup (by simp) (one_m rfl))))
      · exact .tup (by simp) (one_m (.non rfl rfl))
      · exact .non rfl rfl
      · exact .tup (by simp) (one_m (.non rfl rfl))
      · exact .tup (by simp) (one_m (.non rfl rfl))
      · exact .non rfl rfl
  by_cases c1 : d0 = 1
  · subst c1
    obtain ⟨v, hv2, q⟩ := oidx_mem (xs := [.str "nand", .str "Not", .str "", .str "counts", .non, .int 0, .str "and ", .tup [.str "not"], .bl true, .str "value", .lst [.str "not"], .lst [], row1, .lst [.lst []]]) (i := d3 % 14) (by omega) (by simp; omega)
    have mv : MV v := by
      simp only [List.mem_cons, List.not_mem_nil, or_false] at hv2
      rcases hv2 with rfl | rfl | rfl | rfl | rfl | rfl | rfl | rfl | rfl | rfl | rfl | rfl | rfl | rfl
      · exact .non rfl rfl
      · exact .non rfl rfl
      · exact .non rfl rfl
      · exact .non rfl rfl
      · exact .non rfl rfl
      · exact .non rfl rfl
      · exact .non rfl rfl
      · exact .tup (by simp) (one_m rfl)
      · exact .non rfl rfl
      · exact .non rfl rfl
      · exact .non rfl rfl
      · exact .non rfl rfl
      · exact .non rfl rfl
      · exact .non rfl rfl
    refine ⟨.tup ([v] ++ vs), ?_, .tup (by simp; omega) (app_m (one_m mv) hv)⟩
    rw [hd]
    have m := omod_ii (i := d3) (j := 14) (by decide)
    have mr := made_row1
    have s := slc1 (x := .str nm) (vs := vs)
    have j : oadd (.tup [v]) (.tup vs) = .ok (.tup ([v] ++ vs)) := oadd_tt (le_sz (by simp; omega))
    generalize D.tup (.str nm :: vs) = X at *
    generalize D.tup ([v] ++ vs) = Y at *
    generalize D.tup vs = V at *
    generalize row1 = R at *
    generalize nD t = T at *
    unfold m_law_spoilt
    rw [fn3]
    unfold b__law_spoilt
    simp [var, i0, i3, m, mr, q, slc_eq, bnd_some, bnd_none, s, j]
  have bl : blen x.d = .ok (.int ((vs.length : Int) + 1)) := by rw [hd]; simp
  by_cases c2 : d0 = 2
  · subst c2
    have s : oslc x.d none (some ((vs.length : Int) + 1 - 1)) = .ok (.tup (cut (.str nm :: vs) none (some ((vs.length : Int) + 1 - 1)))) := by rw [hd]; rfl
    have lc := cut_len (xs := D.str nm :: vs) (lo := none) (hi := some ((vs.length : Int) + 1 - 1))
    refine ⟨_, ?_, .tup (ys := cut (.str nm :: vs) none (some ((vs.length : Int) + 1 - 1))) (Nat.le_trans lc (by simp; omega)) (cut_m EV)⟩
    generalize D.tup (cut (.str nm :: vs) none (some ((vs.length : Int) + 1 - 1))) = Y at *
    generalize hz : (vs.length : Int) + 1 = Z at *
    generalize x.d = X at *
    generalize nD t = T at *
    unfold m_law_spoilt
    rw [fn3]
    unfold b__law_spoilt
    simp [var, i0, slc_eq, bnd_some, bnd_none, bl, s]
  by_cases c3 : d0 = 3
  · subst c3
    have j : oadd x.d (.tup [.int 0]) = .ok (.tup ((.str nm :: vs) ++ [.int 0])) := by rw [hd]; exact oadd_tt (le_sz (by simp; omega))
    refine ⟨_, ?_, .tup (ys := (.str nm :: vs) ++ [.int 0]) (by simp; omega) (app_m EV (one_m (.non rfl rfl)))⟩
    generalize D.tup ((.str nm :: vs) ++ [.int 0]) = Y at *
    generalize x.d = X at *
    generalize nD t = T at *
    unfold m_law_spoilt
    rw [fn3]
    unfold b__law_spoilt
    simp [var, i0, j]
  have ce := count_eq nm
  by_cases c4 : nm = "count"
  · rw [decide_eq_true c4] at ce
    obtain ⟨p, r, ps, rfl⟩ := cnt c4
    obtain ⟨v, hv1, hv2⟩ := spoilt_count_any h t hx
    refine ⟨v, ?_, hv2⟩
    generalize (Deed.count p r ps).d = X at *
    generalize nD t = T at *
    unfold m_law_spoilt
    rw [fn3]
    unfold b__law_spoilt
    simp [var, i0, c0, c1, c2, c3, x0, ce, hv1]
  rw [decide_eq_false c4] at ce
  obtain ⟨sn, hsn, msn⟩ := spoilt_number_any h t
  by_cases c5 : vs.length = 0
  · have b2 : oeq (.int ((vs.length : Int) + 1)) (.int 1) = .ok (.bl true) := by rw [c5]; rfl
    refine ⟨.tup [.str "not", sn], ?_, .tup (by simp) (cons_m (.non rfl rfl) (one_m msn))⟩
    generalize (vs.length : Int) + 1 = Z at *
    generalize x.d = X at *
    generalize nD t = T at *
    unfold m_law_spoilt
    rw [fn3]
    unfold b__law_spoilt
    have g0 : oeq (.int d0) (.int 0) = .ok (.bl false) := by rw [oeq_ii]; simp [c0]
    have g1 : oeq (.int d0) (.int 1) = .ok (.bl false) := by rw [oeq_ii]; simp [c1]
    have g2 : oeq (.int d0) (.int 2) = .ok (.bl false) := by rw [oeq_ii]; simp [c2]
    have g3 : oeq (.int d0) (.int 3) = .ok (.bl false) := by rw [oeq_ii]; simp [c3]
    simp only [var, seq_eq, ite_eq, ret_eq, tst_eq, bin_eq, un_eq, cst_eq, call_eq, argC_eq, argN_eq, tupE_eq, List.replicate, List.getElem?_cons_succ, List.getElem?_cons_zero, List.length_cons, List.length_nil, chk_2, Nat.zero_add, Nat.reduceAdd, bind_ok, i0, g0, g1, g2, g3, truthy_b, x0, ce, bl, b2, hsn, Bool.false_eq_true, if_false, if_true, if_pos, skip_eq, done_ret]
  · have b2 : oeq (.int ((vs.length : Int) + 1)) (.int 1) = .ok (.bl false) := by
      rw [oeq_ii]
      congr 2
      have : ¬ ((vs.length : Int) + 1 = 1) := by omega
      simpa using this
    obtain ⟨at_, hat, hae⟩ := mod_nat d2 (n := vs.length) (by omega)
    have hm : omod (.int d2) (.int ((vs.length : Int) + 1 - 1)) = .ok (.int (at_ : Int)) := by
      rw [show (vs.length : Int) + 1 - 1 = (vs.length : Int) by omega, omod_ii (by omega), hae]
    have a1 : oadd (.int 1) (.int (at_ : Int)) = .ok (.int (1 + (at_ : Int))) := rfl
    have l3 := cut_len (xs := D.str nm :: vs) (lo := none) (hi := some (1 + (at_ : Int)))
    have l4 := cut_len (xs := D.str nm :: vs) (lo := some ((1 + (at_ : Int)) + 1)) (hi := none)
    have s1 : oslc x.d none (some (1 + (at_ : Int))) = .ok (.tup (cut (.str nm :: vs) none (some (1 + (at_ : Int))))) := by rw [hd]; rfl
    have s2 : oslc x.d (some ((1 + (at_ : Int)) + 1)) none = .ok (.tup (cut (.str nm :: vs) (some ((1 + (at_ : Int)) + 1)) none)) := by rw [hd]; rfl
    have hlen : (D.str nm :: vs).length ≤ 4 := by simp; omega
    have j1 : oadd (.tup (cut (.str nm :: vs) none (some (1 + (at_ : Int))))) (.tup [sn]) = .ok (.tup (cut (.str nm :: vs) none (some (1 + (at_ : Int))) ++ [sn])) := oadd_tt (le_sz (by simp only [List.length_singleton]; omega))
    have j2 : oadd (.tup (cut (.str nm :: vs) none (some (1 + (at_ : Int))) ++ [sn])) (.tup (cut (.str nm :: vs) (some ((1 + (at_ : Int)) + 1)) none)) = .ok (.tup ((cut (.str nm :: vs) none (some (1 + (at_ : Int))) ++ [sn]) ++ cut (.str nm :: vs) (some ((1 + (at_ : Int)) + 1)) none)) := oadd_tt (le_sz (by simp only [List.length_append, List.length_singleton]; omega))
    refine ⟨_, ?_, .tup (ys := (cut (.str nm :: vs) none (some (1 + (at_ : Int))) ++ [sn]) ++ cut (.str nm :: vs) (some ((1 + (at_ : Int)) + 1)) none) (by simp only [List.length_append, List.length_singleton]; omega) (app_m (app_m (cut_m EV) (one_m msn)) (cut_m EV))⟩
    clear l3 l4 hd
    generalize D.tup ((cut (.str nm :: vs) none (some (1 + (at_ : Int))) ++ [sn]) ++ cut (.str nm :: vs) (some ((1 + (at_ : Int)) + 1)) none) = T3 at *
    generalize D.tup (cut (.str nm :: vs) none (some (1 + (at_ : Int))) ++ [sn]) = T2 at *
    generalize D.tup (cut (.str nm :: vs) none (some (1 + (at_ : Int)))) = R2 at *
    generalize D.tup (cut (.str nm :: vs) (some ((1 + (at_ : Int)) + 1)) none) = R3 at *
    have sb : osub (.int ((vs.length : Int) + 1)) (.int 1) = .ok (.int ((vs.length : Int) + 1 - 1)) := rfl
    have ad : oadd (.int (1 + (at_ : Int))) (.int 1) = .ok (.int ((1 + (at_ : Int)) + 1)) := rfl
    generalize (1 + (at_ : Int)) + 1 = A1 at *
    generalize 1 + (at_ : Int) = A0 at *
    generalize (at_ : Int) = A at *
    generalize (vs.length : Int) + 1 - 1 = Z1 at *
    generalize (vs.length : Int) + 1 = Z at *
    generalize x.d = X at *
    generalize nD t = T at *
    unfold m_law_spoilt
    rw [fn3]
    unfold b__law_spoilt
    have g0 : oeq (.int d0) (.int 0) = .ok (.bl false) := by rw [oeq_ii]; simp [c0]
    have g1 : oeq (.int d0) (.int 1) = .ok (.bl false) := by rw [oeq_ii]; simp [c1]
    have g2 : oeq (.int d0) (.int 2) = .ok (.bl false) := by rw [oeq_ii]; simp [c2]
    have g3 : oeq (.int d0) (.int 3) = .ok (.bl false) := by rw [oeq_ii]; simp [c3]
    simp only [var, seq_eq, ite_eq, asg_eq, gnm_eq, lift_some, ret_eq, tst_eq, bin_eq, un_eq, cst_eq, call_eq, argC_eq, argN_eq, tupE_eq, List.replicate, List.set, List.getElem?_cons_succ, List.getElem?_cons_zero, List.length_cons, List.length_nil, chk_1, Nat.zero_add, bind_ok, i0, i2, g0, g1, g2, g3, truthy_b, x0, ce, bl, b2, hm, a1, sb, ad, s1, s2, j1, j2, hsn, slc_eq, bnd_some, bnd_none, Bool.false_eq_true, if_false, skip_eq, done_ret]
/-! ### lists of deeds spoilt -/
theorem compL_filt {α : Type} {f : D → Res (Option D)} {k h : α → D} {p : α → Bool} : ∀ {ys : List α}, (∀ y ∈ ys, f (k y) = .ok (if p y then some (h y) else none)) → compL f (ys.map k) = .ok ((ys.filter p).map h)
  | [], _ => rfl
  | y :: ys, q => by
    have ih := compL_filt (f := f) (k := k) (h := h) (p := p) (ys := ys) fun z hz => q z (List.mem_cons_of_mem _ hz)
    rw [List.map_cons]
    unfold compL
    rw [q y List.mem_cons_self, ih]
    cases hp : p y with
    | true => rw [List.filter_cons_of_pos hp]; rfl
    | false => rw [List.filter_cons_of_neg (by rw [hp]; decide)]; rfl
theorem lc_filt {α : Type} {it : IM} {vs : List Nat} {g : GM} {t : TM} {elt : EM} {e : Env} {ys : List α} {k h : α → D} {p : α → Bool} (hi : it e = .ok (ys.map k)) (hz : ys.length ≤ SZ) (hx : ∀ y ∈ ys, ∃ e1, g (k y) (wipe e vs) = some e1 ∧ t e1 = .ok (p y) ∧ elt e1 = .ok (h y)) : lcE it vs g t elt e = .ok (.lst ((ys.filter p).map h)) := by
  unfold lcE
  rw [hi]
  have q : compL (compF vs g t elt e) (ys.map k) = .ok ((ys.filter p).map h) := compL_filt fun x hm => by
    obtain ⟨e1, h1, h2, h3⟩ := hx x hm
    unfold compF
    rw [h1]
    cases hp : p x with
    | true => simp [h2, h3, hp]
    | false => simp [h2, hp]
  simp only [bind_ok, q, noexc_ok, List.length_map]
  exact chk_ok hz
def sdB : SM := (seq (asg (gnm 5) (bin omod (bin oidx (var 2) (bin oadd (cst (.int 5)) (var 6))) (un blen (var 3))))
  (setL 3 (var 5) (call m_law_spoilt (argC (bin oidx (var 1) (var 5)) (argC (bin oadd (var 0) (var 5)) (argC (var 2) argN))))))
theorem deeds_at {xs : List Deed} {j : Nat} (h : j < xs.length) : oidx (.lst (xs.map Deed.d)) (.int (j : Int)) = .ok xs[j].d := oidx_l (by simp [h])
theorem spoilt_deeds_any (h : DrL L d0 d1 d2 d3 d4 d5 d6 d7 d8) {n : Nat} {xs : List Deed} (hr : Row n xs) (hl : xs.length ≤ 100) : ∃ v, m_law_spoilt_deeds [nD n, .lst (xs.map Deed.d), L] = .ok v ∧ TV v := by
  have i0 := h.i0
  have i1 := h.i1
  have i6 := h.i6
  have i7 := h.i7
  have i8 := h.i8
  have l1 : blen (.lst (xs.map Deed.d)) = .ok (.int (xs.length : Int)) := by rw [blen_l, List.length_map]
  unfold m_law_spoilt_deeds
  rw [fn3]
  show done (seq _ (seq _ (seq _ (seq _ (seq (for_ (irng1 (bin oadd (cst (.int 1)) (bin oidx (var 2) (cst (.int 8))))) (gnm 6) sdB) (ret (var 3)))))) [some (nD n), some (.lst (xs.map Deed.d)), some L, none, none, none, none, none]) |> fun r => ∃ v, r = .ok v ∧ TV v
  have hnon : ∀ v : D, gd v = true → mems v = none → TV v := fun v g m => ⟨g, fun ys e => by rw [m] at e; cases e⟩
  have hlst : ∀ ms : List D, ms.length ≤ 900 → (∀ x ∈ ms, DV x) → TV (.lst ms) := fun ms g m => ⟨rfl, fun ys e => by cases e; exact ⟨g, m⟩⟩
  by_cases c0 : d7 = 0 ∨ xs.length = 0
  · obtain ⟨v, hv, q⟩ := oidx_mem (xs := [.non, .int 3, .bl true, .str "ab", row1, .int (-1), .str "", .int 1000000000000000000000000000000, .bl false, .int 0]) h.b1.1 (by simp; exact h.b1.2)
    refine ⟨v, ?_, ?_⟩
    · have t0 : (orT (tst (bin oeq (bin oidx (var 2) (cst (.int 7))) (cst (.int 0)))) (tst (bin oeq (un blen (var 1)) (cst (.int 0))))) [some (nD n), some (.lst (xs.map Deed.d)), some L, none, none, none, none, none] = .ok true := by
        by_cases c : d7 = 0
        · generalize D.lst (xs.map Deed.d) = XL at *
          generalize nD n = N at *
          simp [var, i7, c]
        · have c' : xs.length = 0 := c0.resolve_left c
          rw [c'] at l1
          have l1' : blen (.lst (xs.map Deed.d)) = .ok (.int 0) := l1
          clear l1
          generalize D.lst (xs.map Deed.d) = XL at *
          generalize nD n = N at *
          simp [var, i7, c, l1']
      rw [seq_eq, ite_eq, t0, bind_ok, if_pos rfl]
      have mr := made_row1
      have o30 := opow30
      generalize D.lst (xs.map Deed.d) = XL at *
      generalize row1 = R at *
      generalize nD n = N at *
      simp [var, i1, mr, o30, q]
    · simp only [List.mem_cons, List.not_mem_nil, or_false] at hv
      rcases hv with rfl | rfl | rfl | rfl | rfl | rfl | rfl | rfl | rfl | rfl <;> exact hnon _ rfl rfl
  have c1 : ¬ d7 = 0 := fun e => c0 (.inl e)
  have c2 : 0 < xs.length := by
    have : ¬ xs.length = 0 := fun e => c0 (.inr e)
    omega
  have t0 : (orT (tst (bin oeq (bin oidx (var 2) (cst (.int 7))) (cst (.int 0)))) (tst (bin oeq (un blen (var 1)) (cst (.int 0))))) [some (nD n), some (.lst (xs.map Deed.d)), some L, none, none, none, none, none] = .ok false := by
    have e : oeq (.int (xs.length : Int)) (.int 0) = .ok (.bl false) := by
      rw [oeq_ii]
      congr 2
      have : ¬ ((xs.length : Int) = 0) := by omega
      simpa using this
    generalize D.lst (xs.map Deed.d) = XL at *
    generalize (xs.length : Int) = Z at *
    generalize nD n = N at *
    have e7 : oeq (.int d7) (.int 0) = .ok (.bl false) := by rw [oeq_ii]; simp [c1]
    simp only [orT_eq, tst_eq, bin_eq, un_eq, cst_eq, var, List.getElem?_cons_succ, List.getElem?_cons_zero, bind_ok, i7, e7, truthy_b, Bool.false_eq_true, if_false, l1, e]
  rw [chk_pass t0]
  rw [asg_pass (d := .lst (xs.map Deed.d)) rfl]
  simp only [List.set]
  have hc : lcE (irng1 (un blen (var 1))) [7] (gnm 7) (tst (bin oeq (bin oidx (bin oidx (var 1) (var 7)) (cst (.int 0))) (cst (.str "count")))) (var 7) [some (nD n), some (.lst (xs.map Deed.d)), some L, some (.lst (xs.map Deed.d)), none, none, none, none] = .ok (.lst (((List.range xs.length).filter fun j => decide ((xs.getD j .zero).name = "count")).map fun i => .int ((i : Nat) : Int))) := by
    refine lc_filt (k := fun i => .int ((i : Nat) : Int)) (irng1_nat (by simp [var]) (rng_lt (by omega))) (by rw [List.length_range]; exact le_sz (by omega)) fun y hy => ?_
    have hy2 := List.mem_range.mp hy
    have e1 := deeds_at hy2
    have e2 := deed_name xs[y]
    have e3 := count_eq xs[y].name
    have e4 : xs.getD y .zero = xs[y] := by rw [List.getD_eq_getElem?_getD, List.getElem?_eq_getElem hy2]; rfl
    rw [e4]
    generalize xs[y].name = nm at *
    generalize hX : xs[y].d = X at *
    generalize D.lst (xs.map Deed.d) = XL at *
    generalize (y : Int) = Y at *
    exact ⟨_, rfl, by simp only [wipe]; simp [var, e1, e2, e3], rfl⟩
  rw [asg_pass hc]
  simp only [List.set]
  generalize hcs : (List.range xs.length).filter (fun j => decide ((xs.getD j .zero).name = "count")) = cs at *
  have lc : blen (.lst (cs.map fun i => D.int ((i : Nat) : Int))) = .ok (.int (cs.length : Int)) := by rw [blen_l, List.length_map]
  have dvs : ∀ x ∈ xs.map Deed.d, DV x := fun x hx => by
    obtain ⟨y, hy, rfl⟩ := List.mem_map.mp hx
    obtain ⟨k, hk⟩ : ∃ k, y.ok k := by
      obtain ⟨i, hi, rfl⟩ := List.mem_iff_getElem.mp hy
      exact ⟨_, hr i hi⟩
    exact deed_DV hk
  by_cases c3 : 3 < d0 ∧ 0 < cs.length
  · obtain ⟨j, hj, ej⟩ := mod_nat d6 (n := cs.length) c3.2
    have m6 : omod (.int d6) (.int (cs.length : Int)) = .ok (.int (j : Int)) := by rw [omod_ii (by omega), ej]
    have ix : oidx (.lst (cs.map fun i => D.int ((i : Nat) : Int))) (.int (j : Int)) = .ok (.int (cs[j] : Int)) := oidx_l (by simp [hj])
    have hmem : cs[j] ∈ (List.range xs.length).filter (fun j => decide ((xs.getD j .zero).name = "count")) := by rw [hcs]; exact List.getElem_mem hj
    obtain ⟨hm1, hm2⟩ := List.mem_filter.mp hmem
    have hm3 := List.mem_range.mp hm1
    generalize cs[j] = a at *
    have e4 : xs.getD a .zero = xs[a] := by rw [List.getD_eq_getElem?_getD, List.getElem?_eq_getElem hm3]; rfl
    rw [e4] at hm2
    have hx := hr a hm3
    have e1 := deeds_at hm3
    obtain ⟨v, hv1, hv2⟩ : ∃ v, m_law_spoilt_count [xs[a].d, nD (n + a), L] = .ok v ∧ DV v := by
      generalize hxa : xs[a] = x at *
      cases x with
      | count p r ps => exact spoilt_count_any h (n + a) hx
      | _ => simp [Deed.name] at hm2
    have ad : oadd (nD n) (.int (a : Int)) = .ok (nD (n + a)) := nadd n a
    have g3 : ogt (.int d0) (.int 3) = .ok (.bl true) := by rw [ogt_ii, decide_eq_true c3.1]
    have g4 : ogt (.int (cs.length : Int)) (.int 0) = .ok (.bl true) := by rw [ogt_ii, decide_eq_true (by omega)]
    refine ⟨.lst ((xs.map Deed.d).set a v), ?_, hlst _ (by simp; omega) fun x hx2 => ?_⟩
    · have t1 : (andT (tst (bin ogt (bin oidx (var 2) (cst (.int 0))) (cst (.int 3)))) (tst (bin ogt (un blen (var 4)) (cst (.int 0))))) [some (nD n), some (.lst (xs.map Deed.d)), some L, some (.lst (xs.map Deed.d)), some (.lst (cs.map fun i => D.int ((i : Nat) : Int))), none, none, none] = .ok true := by
        generalize D.lst (xs.map Deed.d) = XL at *
        generalize D.lst (cs.map fun i => D.int ((i : Nat) : Int)) = CL at *
        generalize (cs.length : Int) = Z at *
        generalize nD n = N at *
        simp only [andT_eq, tst_eq, bin_eq, un_eq, cst_eq, var, List.getElem?_cons_succ, List.getElem?_cons_zero, bind_ok, i0, g3, truthy_b, if_true, lc, g4, if_pos]
      rw [seq_eq, ite_eq, t1, bind_ok, if_pos rfl]
      have a5 : asg (gnm 5) (bin oidx (var 4) (bin omod (bin oidx (var 2) (cst (.int 6))) (un blen (var 4)))) [some (nD n), some (.lst (xs.map Deed.d)), some L, some (.lst (xs.map Deed.d)), some (.lst (cs.map fun i => D.int ((i : Nat) : Int))), none, none, none] = .ok (.next [some (nD n), some (.lst (xs.map Deed.d)), some L, some (.lst (xs.map Deed.d)), some (.lst (cs.map fun i => D.int ((i : Nat) : Int))), some (.int (a : Int)), none, none]) := by
        generalize D.lst (xs.map Deed.d) = XL at *
        generalize D.lst (cs.map fun i => D.int ((i : Nat) : Int)) = CL at *
        generalize (cs.length : Int) = Z at *
        generalize (j : Int) = J at *
        generalize (a : Int) = A at *
        generalize nD n = N at *
        simp [var, i6, lc, m6, ix]
      rw [seq_next a5]
      have sl : setL 3 (var 5) (call m_law_spoilt_count (argC (bin oidx (var 1) (var 5)) (argC (bin oadd (var 0) (var 5)) (argC (var 2) argN)))) [some (nD n), some (.lst (xs.map Deed.d)), some L, some (.lst (xs.map Deed.d)), some (.lst (cs.map fun i => D.int ((i : Nat) : Int))), some (.int (a : Int)), none, none] = .ok (.next [some (nD n), some (.lst (xs.map Deed.d)), some L, some (.lst ((xs.map Deed.d).set a v)), some (.lst (cs.map fun i => D.int ((i : Nat) : Int))), some (.int (a : Int)), none, none]) := by
        refine setL_ok (k := a) rfl ?_ rfl (by simpa using hm3)
        generalize D.lst (xs.map Deed.d) = XL at *
        generalize hxd : xs[a].d = XD at *
        generalize (a : Int) = A at *
        generalize nD (n + a) = M at *
        generalize nD n = N at *
        simp [var, e1, ad, hv1]
      rw [seq_next sl]
      rfl
    · rcases List.mem_or_eq_of_mem_set hx2 with q | q
      · exact dvs x q
      · rw [q]
        exact hv2
  · have t1 : (andT (tst (bin ogt (bin oidx (var 2) (cst (.int 0))) (cst (.int 3)))) (tst (bin ogt (un blen (var 4)) (cst (.int 0))))) [some (nD n), some (.lst (xs.map Deed.d)), some L, some (.lst (xs.map Deed.d)), some (.lst (cs.map fun i => D.int ((i : Nat) : Int))), none, none, none] = .ok false := by
      by_cases g : 3 < d0
      · have g4 : ogt (.int (cs.length : Int)) (.int 0) = .ok (.bl false) := by
          rw [ogt_ii, decide_eq_false]
          intro q
          exact c3 ⟨g, by omega⟩
        have g3 : ogt (.int d0) (.int 3) = .ok (.bl true) := by rw [ogt_ii, decide_eq_true g]
        generalize D.lst (xs.map Deed.d) = XL at *
        generalize D.lst (cs.map fun i => D.int ((i : Nat) : Int)) = CL at *
        generalize (cs.length : Int) = Z at *
        generalize nD n = N at *
        simp only [andT_eq, tst_eq, bin_eq, un_eq, cst_eq, var, List.getElem?_cons_succ, List.getElem?_cons_zero, bind_ok, i0, g3, truthy_b, if_true, lc, g4, if_pos]
      · have g3 : ogt (.int d0) (.int 3) = .ok (.bl false) := by rw [ogt_ii, decide_eq_false g]
        generalize D.lst (xs.map Deed.d) = XL at *
        generalize D.lst (cs.map fun i => D.int ((i : Nat) : Int)) = CL at *
        generalize nD n = N at *
        simp only [andT_eq, tst_eq, bin_eq, un_eq, cst_eq, var, List.getElem?_cons_succ, List.getElem?_cons_zero, bind_ok, i0, g3, truthy_b, Bool.false_eq_true, if_false]
    rw [chk_pass t1]
    obtain ⟨r, hrr⟩ : ∃ r : Nat, 1 + d8 = (r : Int) := ⟨(1 + d8).toNat, by have := h.b8; omega⟩
    have r2 : r ≤ 2 := by have := h.b8; omega
    have hks : ∀ i : Nat, i < 2 → ∃ dk, oidx L (.int (5 + (i : Int))) = .ok (.int dk) := fun i hi => by
      have : i = 0 ∨ i = 1 := by omega
      rcases this with rfl | rfl
      · exact ⟨d5, h.i5⟩
      · exact ⟨d6, h.i6⟩
    obtain ⟨e', q, ms', o5, o6, hl', hx', rfl⟩ := forR_inv (b := forB (gnm 6) sdB) (n := r) (e := [some (nD n), some (.lst (xs.map Deed.d)), some L, some (.lst (xs.map Deed.d)), some (.lst (cs.map fun i => D.int ((i : Nat) : Int))), none, none, none])
      (fun k e => ∃ ms' o5 o6, ms'.length = xs.length ∧ (∀ x ∈ ms', DV x) ∧ e = [some (nD n), some (.lst (xs.map Deed.d)), some L, some (.lst ms'), some (.lst (cs.map fun i => D.int ((i : Nat) : Int))), o5, o6, none]) ⟨xs.map Deed.d, none, none, by simp, dvs, rfl⟩ (by
        rintro k e hk ⟨ms', o5, o6, hl', hx', rfl⟩
        obtain ⟨dk, hdk⟩ := hks k (by omega)
        obtain ⟨a, ha, ea⟩ := mod_nat dk (n := xs.length) c2
        have m5 : omod (.int dk) (.int (xs.length : Int)) = .ok (.int (a : Int)) := by rw [omod_ii (by omega), ea]
        have lm : blen (.lst ms') = .ok (.int (xs.length : Int)) := by rw [blen_l, hl']
        have e1 := deeds_at ha
        obtain ⟨v, hv1, hv2⟩ := spoilt_any h (n + a) (hr a ha)
        have ad : oadd (nD n) (.int (a : Int)) = .ok (nD (n + a)) := nadd n a
        refine ⟨_, ?_, ms'.set a v, some (.int (a : Int)), some (.int (k : Int)), by simp [hl'], fun x hx2 => ?_, rfl⟩
        · rw [forB_eq, gnm_eq, lift_some, bind_ok]
          show seq (asg _ _) (setL 3 _ _) [some (nD n), some (.lst (xs.map Deed.d)), some L, some (.lst ms'), some (.lst (cs.map fun i => D.int ((i : Nat) : Int))), o5, some (.int (k : Int)), none] = _
          refine (asg_pass (d := .int (a : Int)) ?_).trans ?_
          · have a5 : oadd (.int 5) (.int (k : Int)) = .ok (.int (5 + (k : Int))) := rfl
            generalize D.lst (xs.map Deed.d) = XL at *
            generalize D.lst ms' = ML at *
            generalize 5 + (k : Int) = K5 at *
            generalize (k : Int) = K at *
            generalize (xs.length : Int) = Z at *
            generalize nD n = N at *
            simp [var, a5, hdk, lm, m5]
          · refine setL_ok (k := a) rfl ?_ rfl (by rw [hl']; exact ha)
            generalize D.lst (xs.map Deed.d) = XL at *
            generalize hxd : xs[a].d = XD at *
            generalize nD (n + a) = M at *
            generalize (a : Int) = A at *
            generalize nD n = N at *
            simp [var, e1, ad, hv1]
        · rcases List.mem_or_eq_of_mem_set hx2 with q | q
          · exact hx' x q
          · rw [q]
            exact hv2)
    have hM : irng1 (bin oadd (cst (.int 1)) (bin oidx (var 2) (cst (.int 8)))) [some (nD n), some (.lst (xs.map Deed.d)), some L, some (.lst (xs.map Deed.d)), some (.lst (cs.map fun i => D.int ((i : Nat) : Int))), none, none, none] = .ok ((List.range r).map fun i => .int ((i : Nat) : Int)) := irng1_nat (by simp [var, i8, hrr]) (rng_lt (by omega))
    refine ⟨.lst ms', ?_, hlst _ (by omega) hx'⟩
    rw [for_pass hM q]
    rfl
end
end Py.U
namespace Py.U
open PySem
/-! ### calls refused -/
section
variable {n out : Nat} {xs : List Deed}
theorem aw_number {w c : D} (hw : gd w = true) (h : numD w = false) : m_Row_all_words [rowD n xs out, w, c] = .exc "InvalidNumber" [("value", w)] := by
  have h1 := number_any hw
  rw [h] at h1
  have r : ∀ a b c d e, rais "InvalidNumber" ["value"] (argC (var 1) argN) [a, some b, c, d, e] = .exc "InvalidNumber" [("value", b)] := fun a b c d e => rais_1 rfl
  generalize rowD n xs out = R at *
  unfold m_Row_all_words
  rw [fn3]
  unfold b_Row_all_words
  simp [var, h1, r]
theorem aw_words {w k : Nat} {c : D} (ha : AL (k + 2) c) (h : wordsD n w c = false) : m_Row_all_words [rowD n xs out, nD w, c] = .exc "InvalidWords" [("value", c)] := by
  have h1 := number_any (d := nD w) rfl
  have h0 : numD (nD w) = true := by
    show decide (0 ≤ (w : Int)) = true
    exact decide_eq_true (by omega)
  rw [h0] at h1
  have h2 := words_any (n := n) (w := w) ha
  rw [h] at h2
  have h3 := row_inputs n xs out
  have r : ∀ a b c d e, rais "InvalidWords" ["value"] (argC (var 2) argN) [a, b, some c, d, e] = .exc "InvalidWords" [("value", c)] := fun a b c d e => rais_1 rfl
  generalize rowD n xs out = R at *
  generalize nD w = W at *
  generalize nD n = N at *
  unfold m_Row_all_words
  rw [fn3]
  unfold b_Row_all_words
  simp [var, h1, h2, h3, r]
theorem wr_exc {w c : D} {e : String} {fs : List (String × D)} (h : m_Row_all_words [rowD n xs out, w, c] = .exc e fs) : m_Row_write [rowD n xs out, w, c] = .exc e fs := by
  have hc : ∀ (am : AM) (E : Env), E[0]? = some (some (rowD n xs out)) → callM "Row" "all_words" m_Row_all_words (var 0) am E = (am E >>= fun ds => m_Row_all_words (rowD n xs out :: ds)) := fun am E he => callM_row (n := n) (xs := xs) (out := out) (by unfold var; rw [he]) (by decide)
  unfold m_Row_write
  rw [fn3]
  unfold b_Row_write
  show done (ret _ [some (rowD n xs out), some w, some c]) = _
  rw [ret_eq, bin_eq, hc _ _ rfl]
  generalize rowD n xs out = R at *
  simp [var, h]
theorem fn5 {n : Nat} {b : SM} {x y z u v : D} : fn 5 n b [x, y, z, u, v] = done (b (some x :: some y :: some z :: some u :: some v :: List.replicate (n - 5) none)) := if_pos rfl
theorem two_calls {w c : D} {e : String} {fs : List (String × D)} (h : m_Row_all_words [rowD n xs out, w, c] = .exc e fs) {i : Int} {f : D} (hi : i = 0 ∨ i = 1) : (Py.ite (tst (bin oeq (var 1) (cst (.int 0)))) (Py.drop (callM "Row" "all_words" m_Row_all_words (var 0) (argC (var 2) (argC (var 3) argN)))) (Py.drop (callM "Row" "write" m_Row_write (var 0) (argC (var 2) (argC (var 3) argN))))) [some (rowD n xs out), some (.int i), some w, some c, some f, none] = .exc e fs := by
  have h2 := wr_exc h
  have hc : ∀ (mn : String) (g : List D → Res D) (am : AM) (E : Env), (mn ≠ "inputs" ∧ mn ≠ "deeds" ∧ mn ≠ "out") → E[0]? = some (some (rowD n xs out)) → callM "Row" mn g (var 0) am E = (am E >>= fun ds => g (rowD n xs out :: ds)) := fun mn g am E hn he => callM_row (n := n) (xs := xs) (out := out) (by unfold var; rw [he]) hn
  rcases hi with rfl | rfl
  · have t : (tst (bin oeq (var 1) (cst (.int 0)))) [some (rowD n xs out), some (.int 0), some w, some c, some f, none] = .ok true := by simp [var]
    rw [ite_eq, t, bind_ok, if_pos rfl, drop_eq, hc _ _ _ _ (by decide) rfl]
    generalize rowD n xs out = R at *
    simp [var, h]
  · have t : (tst (bin oeq (var 1) (cst (.int 0)))) [some (rowD n xs out), some (.int 1), some w, some c, some f, none] = .ok false := by simp [var]
    rw [ite_eq, t, bind_ok, if_neg (by decide), drop_eq, hc _ _ _ _ (by decide) rfl]
    generalize rowD n xs out = R at *
    simp [var, h2]
theorem ref_number {w c : D} (hw : AL 12 w) (h : numD w = false) {i : Int} (hi : i = 0 ∨ i = 1) : m_law_refused [rowD n xs out, .int i, w, c, .bl true] = .ok (.bl true) := by
  have q := two_calls (f := .bl true) (aw_number (n := n) (xs := xs) (out := out) (c := c) hw.gd h) hi
  have al := alike_refl 12 w hw
  unfold m_law_refused
  rw [fn5]
  unfold b__law_refused
  rw [seq_eq]
  show done (tryE ES 5 _ _ [some (rowD n xs out), some (.int i), some w, some c, some (.bl true), none] >>= _) = _
  rw [tryE_exc (d := .bl true) q rfl ?_]
  · rfl
  · have x1 : ∀ e, xis ES EALL "InvalidNumber" ["InvalidMachine", "InvalidRow", "InvalidMarks", "InvalidKind", "InvalidPrimes", "InvalidText"] e = .ok (.bl false) := fun _ => rfl
    have x2 : ∀ e, xis ES EALL "InvalidNumber" ["InvalidCommand", "Undefined", "NothingToDo", "NothingKept", "InvalidReading"] e = .ok (.bl false) := fun _ => rfl
    have x3 : ∀ e, xis ES EALL "InvalidNumber" ["InvalidNumber"] e = .ok (.bl true) := fun _ => rfl
    have x4 : ∀ e, xis ES EALL "InvalidNumber" ["InvalidWords"] e = .ok (.bl false) := fun _ => rfl
    have x5 : ∀ e, xis ES EALL "InvalidNumber" ["ValueError"] e = .ok (.bl true) := fun _ => rfl
    have x6 : ∀ e, xfld ES EFL "InvalidNumber" "value" [("value", w)] e = .ok w := fun _ => rfl
    have y1 : Py.one (.bl true) (.bl true) = .ok (.bl false) := rfl
    have y2 : oeq (.bl false) (.bl true) = .ok (.bl false) := rfl
    generalize m_law_alike 12 = F at *
    generalize rowD n xs out = R at *
    simp only [seq_eq, ite_eq, orT_eq, notT_eq, tst_eq, bin_eq, x1, x2, x3, x4, x5, bind_ok, truthy_b, Bool.false_eq_true, Bool.not_true, if_false, skip_eq, var, List.set, List.getElem?_cons_succ, List.getElem?_cons_zero, y1, y2, if_true, ret_eq, call_eq, argC_eq, argN_eq, x6, al, if_pos]
theorem ref_words {w k : Nat} {c : D} (hc : AL 12 c) (h : wordsD n w c = false) {i : Int} (hi : i = 0 ∨ i = 1) : m_law_refused [rowD n xs out, .int i, nD w, c, .bl false] = .ok (.bl true) := by
  have q := two_calls (f := .bl false) (aw_words (n := n) (xs := xs) (out := out) (k := 10) hc h) hi
  have al := alike_refl 12 c hc
  unfold m_law_refused
  rw [fn5]
  unfold b__law_refused
  rw [seq_eq]
  show done (tryE ES 5 _ _ [some (rowD n xs out), some (.int i), some (nD w), some c, some (.bl false), none] >>= _) = _
  rw [tryE_exc (d := .bl true) q rfl ?_]
  · rfl
  · have x1 : ∀ e, xis ES EALL "InvalidWords" ["InvalidMachine", "InvalidRow", "InvalidMarks", "InvalidKind", "InvalidPrimes", "InvalidText"] e = .ok (.bl false) := fun _ => rfl
    have x2 : ∀ e, xis ES EALL "InvalidWords" ["InvalidCommand", "Undefined", "NothingToDo", "NothingKept", "InvalidReading"] e = .ok (.bl false) := fun _ => rfl
    have x3 : ∀ e, xis ES EALL "InvalidWords" ["InvalidNumber"] e = .ok (.bl false) := fun _ => rfl
    have x4 : ∀ e, xis ES EALL "InvalidWords" ["InvalidWords"] e = .ok (.bl true) := fun _ => rfl
    have x5 : ∀ e, xis ES EALL "InvalidWords" ["ValueError"] e = .ok (.bl true) := fun _ => rfl
    have x6 : ∀ e, xfld ES EFL "InvalidWords" "value" [("value", c)] e = .ok c := fun _ => rfl
    have y1 : Py.one (.bl false) (.bl false) = .ok (.bl false) := rfl
    have y2 : oeq (.bl true) (.bl false) = .ok (.bl false) := rfl
    generalize m_law_alike 12 = F at *
    generalize rowD n xs out = R at *
    generalize nD w = W at *
    simp only [seq_eq, ite_eq, orT_eq, notT_eq, tst_eq, bin_eq, x1, x2, x3, x4, x5, bind_ok, truthy_b, Bool.false_eq_true, Bool.not_true, if_false, skip_eq, var, List.set, List.getElem?_cons_succ, List.getElem?_cons_zero, y1, y2, if_true, ret_eq, call_eq, argC_eq, argN_eq, x6, al, if_pos]
/-! ### wrong words -/
theorem wordsD_len {w : Nat} {v : D} {ys : List D} (hm : mems v = some ys) (h : ys.length ≠ n) : wordsD n w v = false := by
  unfold wordsD
  rw [hm]
  dsimp only
  rw [decide_eq_false h, Bool.false_and]
theorem wordsD_bad {w : Nat} {v b : D} {ys : List D} (hm : mems v = some ys) (hb : b ∈ ys) (h : wordD w b = false) : wordsD n w v = false := by
  unfold wordsD
  rw [hm]
  dsimp only
  have : ys.all (wordD w) = false := by
    rw [List.all_eq_false]
    exact ⟨b, hb, by rw [h]; decide⟩
  rw [this, Bool.and_false]
theorem big_word {w : Nat} {z : Int} (h : 2 ^ w ≤ z.natAbs) : wordD w (.int z) = false := by
  show (decide (0 ≤ z) && decide (Builtin.Int.intBits z ≤ w)) = false
  rw [decide_eq_false (p := Builtin.Int.intBits z ≤ w) (fun q => by
    have := PySem.intBits_le_iff.mp q
    omega), Bool.and_false]
def badW (t : Nat) (u : Int) : List D := [.int (-1), .int (t : Int), .int ((t : Int) + u), .bl true, .bl false, .non, .str "0", .tup [.int 0], .lst [.int 0], .int (-2)]
theorem badW_in {w : Nat} {u : Int} (hu : 0 ≤ u) : ∀ v ∈ badW (2 ^ w) u, wordD w v = false ∧ AL 11 v := fun v hv => by
  unfold badW at hv
  have p0 := Nat.two_pow_pos w
  simp only [List.mem_cons, List.not_mem_nil, or_false] at hv
  rcases hv with rfl | rfl | rfl | rfl | rfl | rfl | rfl | rfl | rfl | rfl
  · exact ⟨rfl, trivial⟩
  · exact ⟨big_word (by rw [Int.natAbs_natCast]; exact Nat.le_refl _), trivial⟩
  · exact ⟨big_word (by
      generalize 2 ^ w = P at *
      omega), trivial⟩
  · exact ⟨rfl, trivial⟩
  · exact ⟨rfl, trivial⟩
  · exact ⟨rfl, trivial⟩
  · exact ⟨rfl, trivial⟩
  · exact ⟨rfl, AL_t (by simp) (AL_1 (AL_int _ 0))⟩
  · exact ⟨rfl, AL_l (by simp) (AL_1 (AL_int _ 0))⟩
  · exact ⟨rfl, trivial⟩
def zs (n : Nat) : List D := List.replicate n (.int 0)
theorem zs_nD (n : Nat) : zs n = (List.replicate n 0).map nD := by simp [zs, nD]
theorem AL_zs (k n : Nat) : ∀ x ∈ zs n, AL (k + 1) x := fun x hx => by
  rw [List.eq_of_mem_replicate hx]
  exact trivial
theorem lrep0 {n : Nat} (h : n ≤ 1000) : olrep (.lst [.int 0]) (nD n) = .ok (.lst (zs n)) := by
  have := rep_one 0 n h
  rw [List.map_replicate] at this
  exact this
theorem cut1_len {n : Nat} (h : 1 ≤ n) : (cut (zs n) (some 1) none).length = n - 1 := by
  unfold cut
  have l : (zs n).length = n := by simp [zs]
  have e0 : HT.sIx (zs n).length 0 (some (1 : Int)) = 1 := by
    rw [show (1 : Int) = ((1 : Nat) : Int) from rfl, HT.sIx_nat, l, Nat.min_eq_left h]
  have e1 : HT.sIx (zs n).length (zs n).length none = (zs n).length := rfl
  rw [e0, e1, List.length_take, List.length_drop, l]
  omega
def badC (n : Nat) : List D := [.lst (zs n ++ [.int 0]), .tup (cut (zs n) (some 1) none), .non, .int 0, .str "0", .tup [], .lst [.int 0, .int 0, .int 0, .int 0], .tup [.lst (zs n)], .bl true, .int (-1)]
theorem badC_in {n w : Nat} (h1 : 1 ≤ n) (h3 : n ≤ 3) : ∀ v ∈ badC n, wordsD n w v = false ∧ AL 12 v := fun v hv => by
  unfold badC at hv
  simp only [List.mem_cons, List.not_mem_nil, or_false] at hv
  have l : (zs n).length = n := by simp [zs]
  rcases hv with rfl | rfl | rfl | rfl | rfl | rfl | rfl | rfl | rfl | rfl
  · exact ⟨wordsD_len (ys := zs n ++ [.int 0]) rfl (by simp; omega), AL_l (by simp; omega) (AL_a (AL_zs 10 n) (AL_1 trivial))⟩
  · have := cut1_len h1
    exact ⟨wordsD_len (ys := cut (zs n) (some 1) none) rfl (by omega), AL_t (by omega) (AL_c (AL_zs 10 n))⟩
  · exact ⟨rfl, trivial⟩
  · exact ⟨rfl, trivial⟩
  · exact ⟨rfl, trivial⟩
  · exact ⟨wordsD_len (ys := []) rfl (by simp; omega), AL_t (by simp) AL_0⟩
  · exact ⟨wordsD_len (ys := [.int 0, .int 0, .int 0, .int 0]) rfl (by simp; omega), AL_l (by simp) fun x hx => by
      simp only [List.mem_cons, List.not_mem_nil, or_false] at hx
      rcases hx with rfl | rfl | rfl | rfl <;> trivial⟩
  · exact ⟨wordsD_bad (ys := [.lst (zs n)]) (b := .lst (zs n)) rfl (by simp) rfl, AL_t (by simp) (AL_1 (AL_l (by omega) (AL_zs 9 n)))⟩
  · exact ⟨rfl, trivial⟩
  · exact ⟨rfl, trivial⟩
def badN : List D := [.int (-1), .bl true, .bl false, .non, .str "3", .tup [.int 3], .lst [.int 2], .int (-1000000000000000000000000000000), .str "", .tup []]
theorem badN_in : ∀ v ∈ badN, numD v = false ∧ AL 12 v := fun v hv => by
  unfold badN at hv
  simp only [List.mem_cons, List.not_mem_nil, or_false] at hv
  rcases hv with rfl | rfl | rfl | rfl | rfl | rfl | rfl | rfl | rfl | rfl
  · exact ⟨rfl, trivial⟩
  · exact ⟨rfl, trivial⟩
  · exact ⟨rfl, trivial⟩
  · exact ⟨rfl, trivial⟩
  · exact ⟨rfl, trivial⟩
  · exact ⟨rfl, AL_t (by simp) (AL_1 trivial)⟩
  · exact ⟨rfl, AL_l (by simp) (AL_1 trivial)⟩
  · exact ⟨rfl, trivial⟩
  · exact ⟨rfl, trivial⟩
  · exact ⟨rfl, AL_t (by simp) AL_0⟩
def crB : SM := (seq (Py.ite (notT (tst (call m_law_refused (argC (var 0) (argC (var 8) (argC (var 7) (argC (un btuple (var 4)) (argC (cst (.bl true)) argN)))))))) (ret (cst (.bl false))) skip)
  (seq (Py.ite (notT (tst (call m_law_refused (argC (var 0) (argC (var 8) (argC (var 7) (argC (var 6) (argC (cst (.bl true)) argN)))))))) (ret (cst (.bl false))) skip)
  (Py.ite (notT (tst (call m_law_refused (argC (var 0) (argC (var 8) (argC (var 1) (argC (var 6) (argC (cst (.bl false)) argN)))))))) (ret (cst (.bl false))) skip)))
theorem calls_ok {w : Nat} {L : D} {e0 e1 e3 e5 e6 : Int} (hw : w ≤ 64) (h1 : 1 ≤ n) (h3 : n ≤ 3) (hr : Row n xs) (hz : xs.length ≤ 100) (ho : out < n + xs.length)
    (i0 : oidx L (.int 0) = .ok (.int e0)) (i1 : oidx L (.int 1) = .ok (.int e1)) (i3 : oidx L (.int 3) = .ok (.int e3)) (i5 : oidx L (.int 5) = .ok (.int e5)) (i6 : oidx L (.int 6) = .ok (.int e6)) (b1 : 0 ≤ e1 ∧ e1 < 10) (b3 : 0 ≤ e3) (b6 : 0 ≤ e6 ∧ e6 < 10) :
    m_law_calls_refused [rowD n xs out, nD w, L] = .ok (.bl true) := by
  obtain ⟨a, ha, ea⟩ := mod_nD e5 (n := n) (by omega)
  have lz : (zs n).length = n := by simp [zs]
  have hlr := lrep0 (n := n) (by omega)
  have hsh := shl_nD (n := w) (by omega)
  obtain ⟨b, hb, qb⟩ := oidx_mem (xs := badW (2 ^ w) e3) b1.1 (by simp [badW]; exact b1.2)
  obtain ⟨wb1, wb2⟩ := badW_in b3 b hb
  obtain ⟨c, hc, qc⟩ := oidx_mem (xs := badC n) b1.1 (by simp [badC]; exact b1.2)
  obtain ⟨wr, hwr, qw⟩ := oidx_mem (xs := badN) b6.1 (by simp [badN]; exact b6.2)
  obtain ⟨wn1, wn2⟩ := badN_in wr hwr
  unfold badW at qb
  unfold badC at qc
  unfold badN at qw
  have first : wordsD n w (.lst ((zs n).set a b)) = false ∧ AL 12 (.lst ((zs n).set a b)) := ⟨wordsD_bad (ys := (zs n).set a b) rfl (List.mem_set (by omega) b) wb1, AL_l (by simp; omega) fun x hx => by
    rcases List.mem_or_eq_of_mem_set hx with q | q
    · exact AL_zs 10 n x q
    · rw [q]
      exact wb2⟩
  obtain ⟨v, v1, v2, hv⟩ : ∃ v, wordsD n w v = false ∧ AL 12 v ∧ ∀ (a0 a1 a3 a5 : Option D) (t : List (Option D)), (Py.ite (tst (bin oeq (bin oidx (var 2) (cst (.int 0))) (cst (.int 1)))) (asg (gnm 6) (bin oidx (lstE (argC (bin oadd (var 4) (lstE (argC (cst (.int 0)) argN))) (argC (un btuple (slc (var 4) (some (cst (.int 1))) none)) (argC (cst .non) (argC (cst (.int 0)) (argC (cst (.str "0")) (argC (tupE argN) (argC (bin olrep (lstE (argC (cst (.int 0)) argN)) (cst (.int 4))) (argC (tupE (argC (var 4) argN)) (argC (cst (.bl true)) (argC (un oneg (cst (.int 1))) argN))))))))))) (bin oidx (var 2) (cst (.int 1))))) skip) (a0 :: a1 :: some L :: a3 :: some (.lst (zs n)) :: a5 :: some (.lst ((zs n).set a b)) :: t) = .ok (.next (a0 :: a1 :: some L :: a3 :: some (.lst (zs n)) :: a5 :: some v :: t)) := by
    by_cases c1 : e0 = 1
    · subst c1
      refine ⟨c, (badC_in (w := w) h1 h3 c hc).1, (badC_in (w := w) h1 h3 c hc).2, fun a0 a1 a3 a5 t => ?_⟩
      have j1 : oadd (.lst (zs n)) (.lst [.int 0]) = .ok (.lst (zs n ++ [.int 0])) := oadd_ll (le_sz (by simp; omega))
      have j2 : oslc (.lst (zs n)) (some 1) none = .ok (.lst (cut (zs n) (some 1) none)) := rfl
      have j3 : olrep (.lst [.int 0]) (.int 4) = .ok (.lst [.int 0, .int 0, .int 0, .int 0]) := rfl
      generalize D.lst (zs n ++ [.int 0]) = Z1 at *
      generalize cut (zs n) (some 1) none = Z2 at *
      generalize D.lst ((zs n).set a b) = Z3 at *
      generalize D.lst (zs n) = Z4 at *
      simp [var, i0, i1, j1, j2, j3, qc, slc_eq, bnd_some, bnd_none]
    · refine ⟨.lst ((zs n).set a b), first.1, first.2, fun a0 a1 a3 a5 t => ?_⟩
      generalize D.lst ((zs n).set a b) = Z3 at *
      generalize D.lst (zs n) = Z4 at *
      simp [var, i0, c1]
  have hlow : Low w (List.replicate n 0) := fun x hx => by
    rw [List.eq_of_mem_replicate hx]
    exact Nat.two_pow_pos w
  have hbl : (List.replicate n 0).length = n := by simp
  have wt := row_write_ok (out := out) (w := w) (W := .tup ((List.replicate n 0).map nD)) (by omega) (.inr rfl) hlow hbl hr (by omega) ho
  have aw := all_words_ok (out := out) (w := w) (W := .lst ((List.replicate n 0).map nD)) (by omega) (.inl rfl) hlow hbl hr (by omega)
  rw [← zs_nD] at wt aw
  have hval : at0 (vals w (List.replicate n 0) xs) out < 2 ^ w := at0_low (vals_low xs hlow) out
  have rg := rng_any (d := nD (at0 (vals w (List.replicate n 0) xs) out)) rfl 0 (((2 ^ w : Nat) : Int) - 1)
  have rg2 : rngB 0 (((2 ^ w : Nat) : Int) - 1) (nD (at0 (vals w (List.replicate n 0) xs) out)) = true := by
    show (decide (0 ≤ ((at0 (vals w (List.replicate n 0) xs) out : Nat) : Int)) && decide (((at0 (vals w (List.replicate n 0) xs) out : Nat) : Int) ≤ ((2 ^ w : Nat) : Int) - 1)) = true
    generalize 2 ^ w = P at *
    rw [decide_eq_true (by omega), decide_eq_true (by omega)]
    rfl
  rw [rg2] at rg
  obtain ⟨t', ht'⟩ := vals_pre w xs (List.replicate n 0)
  have sl : oslc (.tup ((vals w (List.replicate n 0) xs).map nD)) none (some (n : Int)) = .ok (.tup (zs n)) := by
    show Res.ok (D.tup (cut ((vals w (List.replicate n 0) xs).map nD) none (some (n : Int)))) = _
    rw [cut_take _ (by rw [List.length_map, vals_len]; omega), ht', List.map_append, List.take_append_of_le_length (by simp), zs_nD]
    congr 2
    exact List.take_of_length_le (by simp)
  have al := alike_refl 12 (.tup (zs n)) (AL_t (by omega) (AL_zs 10 n))
  have hcm : ∀ (mn : String) (g : List D → Res D) (am : AM) (E : Env), (mn ≠ "inputs" ∧ mn ≠ "deeds" ∧ mn ≠ "out") → E[0]? = some (some (rowD n xs out)) → callM "Row" mn g (var 0) am E = (am E >>= fun ds => g (rowD n xs out :: ds)) := fun mn g am E hn he => callM_row (n := n) (xs := xs) (out := out) (by unfold var; rw [he]) hn
  have hin : oattr ["Row"] "inputs" (rowD n xs out) = .ok (nD n) := rfl
  have step : ∀ i : Int, (i = 0 ∨ i = 1) → ∀ (a2 a3 a5 o : Option D), forB (gnm 8) crB (.int i) [some (rowD n xs out), some (nD w), a2, a3, some (.lst (zs n)), a5, some v, some wr, o] = .ok (.next [some (rowD n xs out), some (nD w), a2, a3, some (.lst (zs n)), a5, some v, some wr, some (.int i)]) := fun i hi a2 a3 a5 o => by
    have r1 := ref_number (n := n) (xs := xs) (out := out) (c := .tup (zs n)) wn2 wn1 hi
    have r2 := ref_number (n := n) (xs := xs) (out := out) (c := v) wn2 wn1 hi
    have r3 := ref_words (n := n) (xs := xs) (out := out) (w := w) (k := 0) v2 v1 hi
    generalize rowD n xs out = R at *
    generalize zs n = Z at *
    generalize nD w = W at *
    simp [crB, var, r1, r2, r3]
  have o30 := opow30
  have e5' : D.int ((2 ^ w : Nat) : Int) = nD (2 ^ w) := rfl
  unfold m_law_calls_refused
  rw [fn3]
  show done (seq _ (seq _ (seq _ (seq _ (seq _ (seq _ (seq _ (seq (for_ (irng1 (cst (.int 2))) (gnm 8) crB) _))))))) [some (rowD n xs out), some (nD w), some L, none, none, none, none, none, none]) = _
  refine (congrArg done ((asg_pass (d := nD n) ?_).trans ?_)).trans (done_ret (.bl true))
  · generalize rowD n xs out = R at *
    simp [var, hin]
  refine (asg_pass (d := .lst (zs n)) ?_).trans ?_
  · generalize rowD n xs out = R at *
    generalize nD n = N at *
    simp [var, hlr]
  refine (asg_pass (d := nD a) ?_).trans ?_
  · generalize rowD n xs out = R at *
    generalize nD n = N at *
    generalize nD a = A at *
    simp [var, i5, ea]
  refine (asg_pass (d := .lst (zs n)) rfl).trans ?_
  have sL : setL 6 (var 5) (bin oidx (lstE (argC (un oneg (cst (.int 1))) (argC (bin oshl (cst (.int 1)) (var 1)) (argC (bin oadd (bin oshl (cst (.int 1)) (var 1)) (bin oidx (var 2) (cst (.int 3)))) (argC (cst (.bl true)) (argC (cst (.bl false)) (argC (cst .non) (argC (cst (.str "0")) (argC (tupE (argC (cst (.int 0)) argN)) (argC (lstE (argC (cst (.int 0)) argN)) (argC (un oneg (cst (.int 2))) argN))))))))))) (bin oidx (var 2) (cst (.int 1)))) [some (rowD n xs out), some (nD w), some L, some (nD n), some (.lst (zs n)), some (nD a), some (.lst (zs n)), none, none] = .ok (.next [some (rowD n xs out), some (nD w), some L, some (nD n), some (.lst (zs n)), some (nD a), some (.lst ((zs n).set a b)), none, none]) := by
    refine setL_ok (k := a) rfl ?_ rfl (by omega)
    have ad : oadd (nD (2 ^ w)) (.int e3) = .ok (.int (((2 ^ w : Nat) : Int) + e3)) := rfl
    rw [e5'] at qb
    generalize (((2 ^ w : Nat) : Int) + e3) = P3 at *
    generalize nD (2 ^ w) = P at *
    generalize rowD n xs out = R at *
    generalize nD w = W at *
    generalize nD n = N at *
    generalize nD a = A at *
    generalize D.lst (zs n) = Z at *
    simp [var, hsh, ad, i1, i3, qb]
  refine (seq_next sL).trans ?_
  refine (seq_next (hv _ _ _ _ _)).trans ?_
  refine (asg_pass (d := wr) ?_).trans ?_
  · generalize rowD n xs out = R at *
    generalize nD w = W at *
    generalize nD n = N at *
    generalize nD a = A at *
    generalize D.lst (zs n) = Z at *
    simp [var, i6, o30, qw]
  have s0 := step 0 (.inl rfl) (some L) (some (nD n)) (some (nD a)) none
  have s1 := step 1 (.inr rfl) (some L) (some (nD n)) (some (nD a)) (some (.int 0))
  refine (for_pass (xs := [.int 0, .int 1]) (e' := [some (rowD n xs out), some (nD w), some L, some (nD n), some (.lst (zs n)), some (nD a), some v, some wr, some (.int 1)]) (by rw [irng1_int (i := 2) rfl]; rfl) ?_).trans ?_
  · show forL (forB (gnm 8) crB) [.int 0, .int 1] [some (rowD n xs out), some (nD w), some L, some (nD n), some (.lst (zs n)), some (nD a), some v, some wr, none] = _
    unfold forL
    rw [s0]
    show forL (forB (gnm 8) crB) [.int 1] _ = _
    unfold forL
    rw [s1]
    rfl
  have sb : osub (nD (2 ^ w)) (.int 1) = .ok (.int (((2 ^ w : Nat) : Int) - 1)) := rfl
  refine (chk_pass ?_).trans ?_
  · have hcw : callM "Row" "write" m_Row_write (var 0) (argC (var 1) (argC (un btuple (var 4)) argN)) [some (rowD n xs out), some (nD w), some L, some (nD n), some (.lst (zs n)), some (nD a), some v, some wr, some (.int 1)] = .ok (nD (at0 (vals w (List.replicate n 0) xs) out)) := by
      rw [hcm _ _ _ _ (by decide) rfl]
      generalize rowD n xs out = R at *
      generalize nD w = W at *
      generalize zs n = Z at *
      simp [var, wt]
    simp only [notT_eq, tst_eq, call_eq, argC_eq, argN_eq]
    rw [hcw]
    generalize ((2 ^ w : Nat) : Int) - 1 = P1 at *
    generalize nD (2 ^ w) = P at *
    generalize nD (at0 (vals w (List.replicate n 0) xs) out) = VV at *
    generalize rowD n xs out = R at *
    generalize nD w = W at *
    simp [var, hsh, sb, rg]
  have hca : callM "Row" "all_words" m_Row_all_words (var 0) (argC (var 1) (argC (var 4) argN)) [some (rowD n xs out), some (nD w), some L, some (nD n), some (.lst (zs n)), some (nD a), some v, some wr, some (.int 1)] = .ok (.tup ((vals w (List.replicate n 0) xs).map nD)) := by
    rw [hcm _ _ _ _ (by decide) rfl]
    generalize rowD n xs out = R at *
    generalize nD w = W at *
    generalize zs n = Z at *
    simp [var, aw]
  simp only [ret_eq, call_eq, argC_eq, argN_eq, slc_eq, bnd_none]
  rw [hca]
  have bs : slc.bnd (some (var 3)) [some (rowD n xs out), some (nD w), some L, some (nD n), some (.lst (zs n)), some (nD a), some v, some wr, some (.int 1)] = .ok (some (n : Int)) := rfl
  rw [bs]
  generalize m_law_alike 12 = F at *
  generalize D.tup ((vals w (List.replicate n 0) xs).map nD) = VT at *
  generalize rowD n xs out = R at *
  generalize zs n = Z at *
  simp [var, sl, al]
end
end Py.U
namespace Py.U
open PySem
theorem drawn10 {ds : List Int} {a b c d e f g h i j : Int} (H : Drawn ds [a, b, c, d, e, f, g, h, i, j]) : ∃ x0 x1 x2 x3 x4 x5 x6 x7 x8 x9, ds = [x0, x1, x2, x3, x4, x5, x6, x7, x8, x9] ∧ (0 ≤ x0 ∧ x0 < a) ∧ (0 ≤ x1 ∧ x1 < b) ∧ (0 ≤ x5 ∧ x5 < f) ∧ (0 ≤ x6 ∧ x6 < g) ∧ (0 ≤ x7 ∧ x7 < h) ∧ (0 ≤ x9 ∧ x9 < j) := by
  match ds, H with
  | [x0, x1, x2, x3, x4, x5, x6, x7, x8, x9], ⟨h0, h1, _, _, _, h5, h6, h7, _, h9, _⟩ => exact ⟨x0, x1, x2, x3, x4, x5, x6, x7, x8, x9, rfl, h0, h1, h5, h6, h7, h9⟩
theorem drawn9 {ds : List Int} {a b c d e f g h i : Int} (H : Drawn ds [a, b, c, d, e, f, g, h, i]) : ∃ x0 x1 x2 x3 x4 x5 x6 x7 x8, ds = [x0, x1, x2, x3, x4, x5, x6, x7, x8] ∧ (0 ≤ x1 ∧ x1 < b) ∧ (0 ≤ x8 ∧ x8 < i) := by
  match ds, H with
  | [x0, x1, x2, x3, x4, x5, x6, x7, x8], ⟨_, h1, _, _, _, _, _, _, h8, _⟩ => exact ⟨x0, x1, x2, x3, x4, x5, x6, x7, x8, rfl, h1, h8⟩
theorem drawn8 {ds : List Int} {a b c d e f g h : Int} (H : Drawn ds [a, b, c, d, e, f, g, h]) : ∃ x0 x1 x2 x3 x4 x5 x6 x7, ds = [x0, x1, x2, x3, x4, x5, x6, x7] ∧ (0 ≤ x1 ∧ x1 < b) ∧ (0 ≤ x3 ∧ x3 < d) ∧ (0 ≤ x6 ∧ x6 < g) := by
  match ds, H with
  | [x0, x1, x2, x3, x4, x5, x6, x7], ⟨_, h1, _, h3, _, _, h6, _⟩ => exact ⟨x0, x1, x2, x3, x4, x5, x6, x7, rfl, h1, h3, h6⟩
theorem drawn_deed (c : Int) {n : Nat} (hn : 0 < n) : ∃ x : Deed, x.ok n ∧ ∃ L, m_law_draws [.int c, .lst [.int 14, .int 11, .int 11, .int 3, .int 11, .int 30, .int 4]] = .ok L ∧ m_law_deed [L, nD n] = .ok x.d := by
  obtain ⟨ds, hd, q⟩ := draws_ok c [14, 11, 11, 3, 11, 30, 4] (by simp) (by simp)
  obtain ⟨x0, x1, x2, x3, x4, x5, x6, rfl, b0, b3, b6⟩ := drawn7 hd
  obtain ⟨x, h1, h2⟩ := deed_ok hn x0 x1 x2 x3 x4 x5 x6 (by omega) b3 b6
  exact ⟨x, h1, _, q, h2⟩
def deedsB : SM := (app 3 (call m_law_deed (argC (call m_law_draws (argC (call m_law_cell (argC (var 0) (argC (bin oadd (cst (.int 3)) (var 4)) argN))) (argC (lstE (argC (cst (.int 14)) (argC (cst (.int 11)) (argC (cst (.int 11)) (argC (cst (.int 3)) (argC (cst (.int 11)) (argC (cst (.int 30)) (argC (cst (.int 4)) argN)))))))) argN))) (argC (bin oadd (var 2) (var 4)) argN))))
def N9 : List (Option D) := [none, none, none, none, none, none, none, none, none]
theorem deeds_loop (ns : List Int) {n m : Nat} (hn : 0 < n) (hm : m ≤ 100) {L : D} : ∃ xs : List Deed, xs.length = m ∧ Row n xs ∧ ∃ o, forL (forB (gnm 4) deedsB) ((List.range m).map fun i => .int ((i : Nat) : Int)) (some (.lst (ns.map .int)) :: some L :: some (nD n) :: some (.lst []) :: none :: N9) = .ok (.next (some (.lst (ns.map .int)) :: some L :: some (nD n) :: some (.lst (xs.map Deed.d)) :: o :: N9)) := by
  obtain ⟨e', h1, xs, h2, h3, o, rfl⟩ := forR_inv (b := forB (gnm 4) deedsB) (n := m) (e := some (.lst (ns.map .int)) :: some L :: some (nD n) :: some (.lst []) :: none :: N9)
    (fun k E => ∃ xs : List Deed, xs.length = k ∧ Row n xs ∧ ∃ o, E = some (.lst (ns.map .int)) :: some L :: some (nD n) :: some (.lst (xs.map Deed.d)) :: o :: N9) ⟨[], rfl, fun k h => by simp at h, none, rfl⟩ (by
      rintro k E hk ⟨xs, h1, h2, o, rfl⟩
      obtain ⟨c, hc⟩ := cell_ok ns (3 + k)
      obtain ⟨x, hx, D', h3, h4⟩ := drawn_deed c (n := n + k) (by omega)
      have e1 : oadd (.int 3) (.int (k : Int)) = .ok (.int ((3 + k : Nat) : Int)) := nadd 3 k
      have e2 : oadd (nD n) (.int (k : Int)) = .ok (nD (n + k)) := nadd n k
      have z : (xs.map Deed.d).length < SZ := by rw [List.length_map]; exact Nat.lt_of_le_of_lt (show xs.length ≤ 100 by omega) (by decide)
      refine ⟨some (.lst (ns.map .int)) :: some L :: some (nD n) :: some (.lst ((xs ++ [x]).map Deed.d)) :: some (.int (k : Int)) :: N9, ?_, xs ++ [x], by simp [h1], h2.snoc (by rw [h1]; exact hx), _, rfl⟩
      rw [List.map_append, List.map_singleton]
      generalize hX : x.d = X at *
      generalize hXS : xs.map Deed.d = XS at *
      generalize ((3 + k : Nat) : Int) = z3 at *
      generalize nD (n + k) = M at *
      generalize (k : Int) = z0 at *
      generalize nD n = N at *
      generalize ns.map D.int = S at *
      simp [deedsB, var, e1, e2, hc, h3, h4, z])
  exact ⟨xs, h2, h3, o, h1⟩
theorem TV_l {ms : List D} (h1 : ms.length ≤ 900) (h2 : ∀ x ∈ ms, DV x) : TV (.lst ms) := ⟨rfl, fun ys e => by cases e; exact ⟨h1, h2⟩⟩
theorem TV_t {ms : List D} (h1 : ms.length ≤ 900) (h2 : ∀ x ∈ ms, DV x) : TV (.tup ms) := ⟨rfl, fun ys e => by cases e; exact ⟨h1, h2⟩⟩
theorem TV_c {v : D} (h : TV v) : ∃ w, TV w ∧ ∀ (DD : D) (d4 : Int) (a0 a2 a3 a4 a5 a6 a7 : Option D) (t : List (Option D)), oidx DD (.int 4) = .ok (.int d4) → (Py.ite (andT (tst (bin oeq (bin oidx (var 1) (cst (.int 4))) (cst (.int 1)))) (tst (un (oisi CS [.lst]) (var 8)))) (asg (gnm 8) (un btuple (var 8))) skip) (a0 :: some DD :: a2 :: a3 :: a4 :: a5 :: a6 :: a7 :: some v :: t) = .ok (.next (a0 :: some DD :: a2 :: a3 :: a4 :: a5 :: a6 :: a7 :: some (if d4 = 1 then w else v) :: t)) := by
  have e := islst h.top
  cases v with
  | lst ms =>
    obtain ⟨h1, h2⟩ := h.mem ms rfl
    refine ⟨.tup ms, TV_t h1 h2, fun DD d4 a0 a2 a3 a4 a5 a6 a7 t hd => ?_⟩
    have e2 : isI .lst (.lst ms) = true := rfl
    rw [e2] at e
    by_cases c : d4 = 1
    · rw [if_pos c]
      simp [var, hd, c, e]
    · rw [if_neg c]
      simp [var, hd, c]
  | _ =>
    refine ⟨_, h, fun DD d4 a0 a2 a3 a4 a5 a6 a7 t hd => ?_⟩
    simp [isI] at e
    rw [ite_self]
    by_cases c : d4 = 1
    · simp [var, hd, c, e]
    · simp [var, hd, c]
theorem spoils_ok (ns : List Int) (k : Nat) {n : Nat} {xs : List Deed} (hr : Row n xs) (hl : xs.length ≤ 100) : ∃ c L v, m_law_cell [.lst (ns.map .int), nD k] = .ok (.int c) ∧ m_law_draws [.int c, .lst [.int 8, .int 10, .int 4, .int 1000, .int 4, .int 8, .int 10, .int 10, .int 2]] = .ok L ∧ m_law_spoilt_deeds [nD n, .lst (xs.map Deed.d), L] = .ok v ∧ TV v := by
  obtain ⟨c, hc⟩ := cell_ok ns k
  obtain ⟨ds, hdr, hd⟩ := draws_ok c [8, 10, 4, 1000, 4, 8, 10, 10, 2] (by simp) (by simp)
  obtain ⟨x0, x1, x2, x3, x4, x5, x6, x7, x8, rfl, b1, b8⟩ := drawn9 hdr
  obtain ⟨v, hv1, hv2⟩ := spoilt_deeds_any (L := .lst [.int x0, .int x1, .int x2, .int x3, .int x4, .int x5, .int x6, .int x7, .int x8]) ⟨rfl, rfl, rfl, rfl, rfl, rfl, rfl, rfl, rfl, b1, b8⟩ hr hl
  exact ⟨c, _, v, hc, hd, hv1, hv2⟩
def tnB : SM := (seq (asg (gnm 6) (call m_law_draws (argC (call m_law_cell (argC (var 0) (argC (bin oadd (cst (.int 12)) (var 13)) argN))) (argC (lstE (argC (cst (.int 8)) (argC (cst (.int 10)) (argC (cst (.int 4)) (argC (cst (.int 1000)) (argC (cst (.int 4)) (argC (cst (.int 8)) (argC (cst (.int 10)) (argC (cst (.int 10)) (argC (cst (.int 2)) argN)))))))))) argN))))
  (Py.ite (notT (tst (call m_law_made_rightly (argC (var 2) (argC (call m_law_spoilt_deeds (argC (var 2) (argC (var 3) (argC (var 6) argN)))) (argC (bin osub (var 5) (cst (.int 1))) argN)))))) (ret (cst (.bl false))) skip))
theorem turn_loop (ns : List Int) {n tt : Nat} {xs : List Deed} (hr : Row n xs) (hl : xs.length ≤ 100) (a1 a4 a7 a8 a9 a10 a11 a12 : Option D) (o6 : Option D) : ∃ o6' o13, forL (forB (gnm 13) tnB) ((List.range 6).map fun i => .int ((i : Nat) : Int)) [some (.lst (ns.map .int)), a1, some (nD n), some (.lst (xs.map Deed.d)), a4, some (nD tt), o6, a7, a8, a9, a10, a11, a12, none] = .ok (.next [some (.lst (ns.map .int)), a1, some (nD n), some (.lst (xs.map Deed.d)), a4, some (nD tt), o6', a7, a8, a9, a10, a11, a12, o13]) := by
  obtain ⟨e', h1, o6', o13, rfl⟩ := forR_inv (b := forB (gnm 13) tnB) (n := 6) (e := [some (.lst (ns.map .int)), a1, some (nD n), some (.lst (xs.map Deed.d)), a4, some (nD tt), o6, a7, a8, a9, a10, a11, a12, none])
    (fun _ E => ∃ o6' o13, E = [some (.lst (ns.map .int)), a1, some (nD n), some (.lst (xs.map Deed.d)), a4, some (nD tt), o6', a7, a8, a9, a10, a11, a12, o13]) ⟨_, _, rfl⟩ (by
      rintro k E hk ⟨o6', o13, rfl⟩
      obtain ⟨c, L, v, h1, h2, h3, h4⟩ := spoils_ok ns (12 + k) hr hl
      have ad : oadd (.int 12) (.int (k : Int)) = .ok (nD (12 + k)) := nadd 12 k
      have sb : osub (nD tt) (.int 1) = .ok (.int ((tt : Int) - 1)) := rfl
      have mr := made_rightly (i := nD n) (y := .int ((tt : Int) - 1)) rfl h4 rfl
      refine ⟨[some (.lst (ns.map .int)), a1, some (nD n), some (.lst (xs.map Deed.d)), a4, some (nD tt), some L, a7, a8, a9, a10, a11, a12, some (.int (k : Int))], ?_, _, _, rfl⟩
      generalize nD (12 + k) = z1 at *
      generalize (k : Int) = z0 at *
      generalize (tt : Int) - 1 = z2 at *
      generalize nD n = N at *
      generalize nD tt = T at *
      generalize hXS : D.lst (xs.map Deed.d) = XS at *
      generalize ns.map D.int = S at *
      simp [tnB, var, ad, sb, h1, h2, h3, mr])
  exact ⟨o6', o13, h1⟩
theorem holds_ok (ns : List Int) : m_law_holds [.lst (ns.map .int)] = .ok (.bl true) := by
  obtain ⟨c0, hc0⟩ := cell_ok ns 0
  obtain ⟨c2, hc2⟩ := cell_ok ns 2
  obtain ⟨ds, hdr, hd⟩ := draws_ok c0 [3, 9, 11, 4, 4, 10, 65, 1000, 4, 10] (by simp) (by simp)
  obtain ⟨d0, d1, d2, d3, d4, d5, d6, d7, d8, d9, rfl, b0, b1, b5, b6, b7, b9⟩ := drawn10 hdr
  obtain ⟨n, hn⟩ : ∃ n : Nat, 1 + d0 = (n : Int) := ⟨(1 + d0).toNat, by omega⟩
  obtain ⟨m, hm⟩ : ∃ n : Nat, d1 = (n : Int) := ⟨d1.toNat, by omega⟩
  obtain ⟨w, hw⟩ : ∃ n : Nat, d6 = (n : Int) := ⟨d6.toNat, by omega⟩
  generalize hDD : D.lst [.int d0, .int d1, .int d2, .int d3, .int d4, .int d5, .int d6, .int d7, .int d8, .int d9] = DD at *
  have y0 : oidx DD (.int 0) = .ok (.int d0) := by rw [← hDD]; rfl
  have y1 : oidx DD (.int 1) = .ok (.int d1) := by rw [← hDD]; rfl
  have y2 : oidx DD (.int 2) = .ok (.int d2) := by rw [← hDD]; rfl
  have y3 : oidx DD (.int 3) = .ok (.int d3) := by rw [← hDD]; rfl
  have y4 : oidx DD (.int 4) = .ok (.int d4) := by rw [← hDD]; rfl
  have y5 : oidx DD (.int 5) = .ok (.int d5) := by rw [← hDD]; rfl
  have y6 : oidx DD (.int 6) = .ok (nD w) := by rw [← hDD, hw]; rfl
  have y7 : oidx DD (.int 7) = .ok (.int d7) := by rw [← hDD]; rfl
  have y8 : oidx DD (.int 8) = .ok (.int d8) := by rw [← hDD]; rfl
  have y9 : oidx DD (.int 9) = .ok (.int d9) := by rw [← hDD]; rfl
  obtain ⟨xs, rfl, hr, o4, hlp⟩ := deeds_loop ns (n := n) (m := m) (L := DD) (by omega) (by omega)
  have hl8 : xs.length ≤ 8 := by omega
  obtain ⟨q, hq, eq2⟩ := mod_nD d2 (n := n + xs.length) (by omega)
  obtain ⟨cs, L, v, s1, s2, s3, s4⟩ := spoils_ok ns 1 hr (by omega)
  obtain ⟨tw, tw1, tw2⟩ := TV_c s4
  obtain ⟨wr, hwr, qw⟩ := oidx_mem (xs := [.int 0, .int 4, .int (-1), .bl true, .non, .str "1", .tup [.int 1], .int 1000000000000000000000000000000, .bl false, .lst [.int 2]]) b5.1 (by simp; exact b5.2)
  have gwr : gd wr = true := by
    simp only [List.mem_cons, List.not_mem_nil, or_false] at hwr
    rcases hwr with rfl | rfl | rfl | rfl | rfl | rfl | rfl | rfl | rfl | rfl <;> rfl
  obtain ⟨no, hno, qn⟩ := oidx_mem (xs := [.int (-1), .int ((n + xs.length : Nat) : Int), .int (((n + xs.length : Nat) : Int) + d7), .bl true, .bl false, .non, .str "0", .tup [.int 0], .lst [.int 0], .int (-1000000000000000000000000000000)]) b9.1 (by simp; exact b9.2)
  have gno : gd no = true := by
    simp only [List.mem_cons, List.not_mem_nil, or_false] at hno
    rcases hno with rfl | rfl | rfl | rfl | rfl | rfl | rfl | rfl | rfl | rfl <;> rfl
  have dvs : ∀ x ∈ xs.map Deed.d, DV x := fun x hx => by
    obtain ⟨y, hy, rfl⟩ := List.mem_map.mp hx
    obtain ⟨i, hi, rfl⟩ := List.mem_iff_getElem.mp hy
    exact deed_DV (hr i hi)
  have tl : TV (.lst (xs.map Deed.d)) := TV_l (by simp; omega) dvs
  have tt : TV (.tup (xs.map Deed.d)) := TV_t (by simp; omega) dvs
  -- what is asked
  have m1 := made_rightly (i := nD n) (y := nD q) rfl tl rfl
  have m3 := made_rightly gwr tl gno
  have m4 := made_rightly gwr s4 gno
  have m5 := made_rightly (i := nD n) (y := .int (((n + xs.length : Nat) : Int) - 1)) rfl tt rfl
  obtain ⟨pr, hpr, qp⟩ := oidx_mem (xs := [.int 4, .int 6, .int 7, .int 8, .int 9, .int 10, .int 11, .int 12, .int 13, .int 1]) (i := d7 % 10) (by omega) (by simp; omega)
  obtain ⟨P, hP, rfl⟩ : ∃ P : Nat, 0 < P ∧ pr = nD P := by
    simp only [List.mem_cons, List.not_mem_nil, or_false] at hpr
    rcases hpr with rfl | rfl | rfl | rfl | rfl | rfl | rfl | rfl | rfl | rfl
    · exact ⟨4, by decide, rfl⟩
    · exact ⟨6, by decide, rfl⟩
    · exact ⟨7, by decide, rfl⟩
    · exact ⟨8, by decide, rfl⟩
    · exact ⟨9, by decide, rfl⟩
    · exact ⟨10, by decide, rfl⟩
    · exact ⟨11, by decide, rfl⟩
    · exact ⟨12, by decide, rfl⟩
    · exact ⟨13, by decide, rfl⟩
    · exact ⟨1, by decide, rfl⟩
  obtain ⟨r7, hr7, er7⟩ := mod_nD d7 hP
  have tc : TV (.lst (xs.map Deed.d ++ [.tup [.str "count", nD P, nD r7, .tup [.int 0]]])) := TV_l (by simp; omega) (app_m dvs (one_m (.tup (by simp) (cons_m (.non rfl rfl) (cons_m (.non rfl rfl) (cons_m (.non rfl rfl) (one_m (.tup (by simp) (one_m rfl)))))))))
  have m6 := made_rightly (i := nD n) (y := .int (((n + xs.length : Nat) : Int) - 1)) rfl tc rfl
  have jc : oadd (.lst (xs.map Deed.d)) (.lst [.tup [.str "count", nD P, nD r7, .tup [.int 0]]]) = .ok (.lst (xs.map Deed.d ++ [.tup [.str "count", nD P, nD r7, .tup [.int 0]]])) := oadd_ll (le_sz (by simp; omega))
  have rm := row_made2 (out := n + xs.length - 1) (by omega) (by omega) hr (by omega) (by omega)
  have ro : nD (n + xs.length - 1) = .int (((n + xs.length : Nat) : Int) - 1) := by
    unfold nD
    congr 1
    omega
  rw [ro] at rm
  obtain ⟨dk, hdk, hd8⟩ := draws_ok c2 [2, 10, 10, 10, 10, 10, 10, 10] (by simp) (by simp)
  obtain ⟨e0, e1, e2, e3, e4, e5, e6, e7, rfl, f1, f3, f6⟩ := drawn8 hdk
  have cl := calls_ok (n := n) (xs := xs) (out := n + xs.length - 1) (w := w) (L := .lst [.int e0, .int e1, .int e2, .int e3, .int e4, .int e5, .int e6, .int e7]) (by omega) (by omega) (by omega) hr (by omega) (by omega) rfl rfl rfl rfl rfl f1 f3.1 f6
  have eN : oadd (.int 1) (.int d0) = .ok (nD n) := by
    rw [oadd_ii, hn]
    rfl
  have eT : oadd (nD n) (.int (xs.length : Int)) = .ok (nD (n + xs.length)) := nadd n xs.length
  have eT2 : oadd (nD (n + xs.length)) (.int d7) = .ok (.int (((n + xs.length : Nat) : Int) + d7)) := rfl
  have eS : osub (nD (n + xs.length)) (.int 1) = .ok (.int (((n + xs.length : Nat) : Int) - 1)) := rfl
  have eL : blen (.lst (xs.map Deed.d)) = .ok (.int (xs.length : Int)) := by rw [blen_l, List.length_map]
  have eB : blist (.lst (xs.map Deed.d)) = .ok (.lst (xs.map Deed.d)) := rfl
  have eU : btuple (.lst (xs.map Deed.d)) = .ok (.tup (xs.map Deed.d)) := rfl
  have hM1 : ∀ t : List (Option D), irng1 (bin oidx (var 1) (cst (.int 1))) (some (.lst (ns.map .int)) :: some DD :: t) = .ok ((List.range xs.length).map fun i => .int ((i : Nat) : Int)) := fun t => irng1_nat (by simp [var, y1, hm]) (rng_lt (by omega))
  obtain ⟨i7, gi7, hi7⟩ : ∃ i7, gd i7 = true ∧ ∀ (a0 a2 a3 a4 a5 a6 a8 a9 : Option D) (t : List (Option D)), (Py.ite (tst (bin oeq (bin oidx (var 1) (cst (.int 3))) (cst (.int 0)))) (asg (gnm 7) (var 10)) skip) (a0 :: some DD :: a2 :: a3 :: a4 :: a5 :: a6 :: some (nD n) :: a8 :: a9 :: some wr :: t) = .ok (.next (a0 :: some DD :: a2 :: a3 :: a4 :: a5 :: a6 :: some i7 :: a8 :: a9 :: some wr :: t)) := by
    by_cases c : d3 = 0
    · exact ⟨wr, gwr, fun a0 a2 a3 a4 a5 a6 a8 a9 t => by simp [var, y3, c]⟩
    · exact ⟨nD n, rfl, fun a0 a2 a3 a4 a5 a6 a8 a9 t => by simp [var, y3, c]⟩
  obtain ⟨i9, gi9, hi9⟩ : ∃ i9, gd i9 = true ∧ ∀ (a0 a2 a3 a4 a5 a6 a7 a8 a10 : Option D) (t : List (Option D)), (Py.ite (tst (bin oeq (bin oidx (var 1) (cst (.int 8))) (cst (.int 0)))) (asg (gnm 9) (var 11)) skip) (a0 :: some DD :: a2 :: a3 :: a4 :: a5 :: a6 :: a7 :: a8 :: some (nD q) :: a10 :: some no :: t) = .ok (.next (a0 :: some DD :: a2 :: a3 :: a4 :: a5 :: a6 :: a7 :: a8 :: some i9 :: a10 :: some no :: t)) := by
    by_cases c : d8 = 0
    · exact ⟨no, gno, fun a0 a2 a3 a4 a5 a6 a7 a8 a10 t => by simp [var, y8, c]⟩
    · exact ⟨nD q, rfl, fun a0 a2 a3 a4 a5 a6 a7 a8 a10 t => by simp [var, y8, c]⟩
  obtain ⟨i8, ti8, hi8⟩ : ∃ i8, TV i8 ∧ ∀ (a0 a4 a5 a7 : Option D) (t : List (Option D)), (Py.ite (tst (bin ogt (bin oidx (var 1) (cst (.int 4))) (cst (.int 0)))) (seq (asg (gnm 8) (call m_law_spoilt_deeds (argC (var 2) (argC (var 3) (argC (var 6) argN)))))
      (Py.ite (andT (tst (bin oeq (bin oidx (var 1) (cst (.int 4))) (cst (.int 1)))) (tst (un (oisi CS [.lst]) (var 8)))) (asg (gnm 8) (un btuple (var 8))) skip)) skip) (a0 :: some DD :: some (nD n) :: some (.lst (xs.map Deed.d)) :: a4 :: a5 :: some L :: a7 :: some (.lst (xs.map Deed.d)) :: t) = .ok (.next (a0 :: some DD :: some (nD n) :: some (.lst (xs.map Deed.d)) :: a4 :: a5 :: some L :: a7 :: some i8 :: t)) := by
    by_cases c : 0 < d4
    · refine ⟨if d4 = 1 then tw else v, ?_, fun a0 a4 a5 a7 t => ?_⟩
      · by_cases c2 : d4 = 1
        · rw [if_pos c2]; exact tw1
        · rw [if_neg c2]; exact s4
      · have t1 : (tst (bin ogt (bin oidx (var 1) (cst (.int 4))) (cst (.int 0)))) (a0 :: some DD :: some (nD n) :: some (.lst (xs.map Deed.d)) :: a4 :: a5 :: some L :: a7 :: some (.lst (xs.map Deed.d)) :: t) = .ok true := by
          simp [var, y4, c]
        have a1 : asg (gnm 8) (call m_law_spoilt_deeds (argC (var 2) (argC (var 3) (argC (var 6) argN)))) (a0 :: some DD :: some (nD n) :: some (.lst (xs.map Deed.d)) :: a4 :: a5 :: some L :: a7 :: some (.lst (xs.map Deed.d)) :: t) = .ok (.next (a0 :: some DD :: some (nD n) :: some (.lst (xs.map Deed.d)) :: a4 :: a5 :: some L :: a7 :: some v :: t)) := by
          generalize D.lst (xs.map Deed.d) = XS at *
          simp [var, s3]
        rw [ite_eq, t1, bind_ok, if_pos rfl, seq_next a1]
        exact tw2 DD d4 _ _ _ _ _ _ _ _ y4
    · refine ⟨.lst (xs.map Deed.d), tl, fun a0 a4 a5 a7 t => ?_⟩
      simp [var, y4, c]
  have m2 := made_rightly gi7 ti8 gi9
  obtain ⟨o6', o13, htn⟩ := turn_loop ns (tt := n + xs.length) hr (by omega) (some DD) o4 (some i7) (some i8) (some i9) (some wr) (some no) (some (nD P)) (some L)
  have hc0' : m_law_cell [.lst (ns.map .int), .int 0] = .ok (.int c0) := hc0
  have hc2' : m_law_cell [.lst (ns.map .int), .int 2] = .ok (.int c2) := hc2
  have s1' : m_law_cell [.lst (ns.map .int), .int 1] = .ok (.int cs) := s1
  change m_law_draws [_, .lst [.int 3, .int 9, .int 11, .int 4, .int 4, .int 10, .int 65, .int 1000, .int 4, .int 10]] = .ok (.lst [.int d0, .int d1, .int d2, .int d3, .int d4, .int d5, .int d6, .int d7, .int d8, .int d9]) at hd
  change m_law_draws [_, .lst [.int 2, .int 10, .int 10, .int 10, .int 10, .int 10, .int 10, .int 10]] = .ok (.lst [.int e0, .int e1, .int e2, .int e3, .int e4, .int e5, .int e6, .int e7]) at hd8
  have l10 : olrep (.lst [.int 10]) (.int 7) = .ok (.lst [.int 10, .int 10, .int 10, .int 10, .int 10, .int 10, .int 10]) := rfl
  have j10 : oadd (.lst [.int 2]) (.lst [.int 10, .int 10, .int 10, .int 10, .int 10, .int 10, .int 10]) = .ok (.lst [.int 2, .int 10, .int 10, .int 10, .int 10, .int 10, .int 10, .int 10]) := oadd_ll (le_sz (by simp))
  have o30 := opow30
  have m10 := omod_ii (i := d7) (j := 10) (by decide)
  have eZ : D.int ((n + xs.length : Nat) : Int) = nD (n + xs.length) := rfl
  rw [hDD] at hd
  rw [eZ] at qn
  clear hm hn hw hc0 hc2 s1 b0 b1 b5 b6 b7 b9 hDD hdr f1 f3 f6 hwr hno hpr s4 tl tt tc dvs ti8 tw1 tw2 ro eZ
  generalize hX1 : D.lst (xs.map Deed.d ++ [.tup [.str "count", nD P, nD r7, .tup [.int 0]]]) = XC at *
  generalize hX2 : D.tup [.str "count", nD P, nD r7, .tup [.int 0]] = CT at *
  have mkc : ∀ e, tupE (argC (cst (.str "count")) (argC (cst (nD P)) (argC (cst (nD r7)) (argC (cst (.tup [.int 0])) argN)))) e = .ok CT := fun e => by rw [← hX2]; simp
  generalize hLL : D.lst [.int e0, .int e1, .int e2, .int e3, .int e4, .int e5, .int e6, .int e7] = LL at *
  generalize rowD n xs (n + xs.length - 1) = RR at *
  generalize hXS : D.lst (xs.map Deed.d) = XS at *
  generalize hXT : D.tup (xs.map Deed.d) = XT at *
  generalize ((n + xs.length : Nat) : Int) - 1 = TM at *
  generalize ((n + xs.length : Nat) : Int) + d7 = TP at *
  generalize (xs.length : Int) = XL at *
  unfold m_law_holds
  rw [fn1]
  unfold b__law_holds
  refine (congrArg done ((asg_pass (d := DD) ?_).trans ?_)).trans (done_ret (.bl true))
  · simp [var, hc0', hd]
  refine (asg_pass (d := nD n) ?_).trans ?_
  · simp [var, y0, eN]
  refine (asg_pass (d := .lst []) (by simp)).trans ?_
  refine (for_pass (hM1 _) hlp).trans ?_
  generalize nD (n + xs.length) = TT at *
  generalize nD n = N at *
  generalize nD w = W at *
  generalize nD q = Q at *
  generalize hSs : ns.map D.int = Sc at *
  refine (asg_pass (d := TT) ?_).trans ?_
  · simp [var, eL, eT]
  refine (chk_pass ?_).trans ?_
  · simp [var, N9, eB, y2, eq2, m1]
  refine (asg_pass (d := L) ?_).trans ?_
  · simp [var, s1', s2]
  refine (asg_pass (d := N) ?_).trans ?_
  · simp [var]
  refine (asg_pass (d := XS) ?_).trans ?_
  · simp [var, eB]
  refine (asg_pass (d := Q) ?_).trans ?_
  · simp [var, N9, y2, eq2]
  refine (asg_pass (d := wr) ?_).trans ?_
  · simp [var, y5, o30, qw]
  refine (asg_pass (d := no) ?_).trans ?_
  · simp [var, N9, y7, y9, eT2, o30, qn]
  refine (seq_next (hi7 _ _ _ _ _ _ _ _ _)).trans ?_
  refine (seq_next (hi9 _ _ _ _ _ _ _ _ _ _)).trans ?_
  refine (seq_next (hi8 _ _ _ _ _)).trans ?_
  refine (chk_pass ?_).trans ?_
  · simp [var, m2, m3, eB]
  refine (chk_pass ?_).trans ?_
  · simp [var, s3, m4]
  generalize hPP : nD P = PP at *
  generalize hR7 : nD r7 = R7 at *
  refine (asg_pass (d := PP) ?_).trans ?_
  · simp [var, y7, m10, qp]
  refine (chk_pass ?_).trans ?_
  · simp [var, N9, y7, er7, eB, hX2, jc, eS, m6]
  refine (for_pass (xs := (List.range 6).map fun i => .int ((i : Nat) : Int)) (irng1_nat rfl (by decide)) htn).trans ?_
  refine (chk_pass ?_).trans ?_
  · simp [var, eU, eS, m5]
  simp [var, eB, eS, rm, y6, hc2', l10, j10, hd8, cl]
theorem law_true (ns : List Int) (h : ns.length ≤ 63) : m_law [.lst (ns.map .int)] = .ok (.bl true) := by
  have q := holds_ok ns
  generalize D.lst (ns.map .int) = S at *
  unfold m_law
  rw [fn1]
  unfold b_law
  simp [var, q]
end Py.U
namespace Py
open PySem PySem.Spec PyProof.Rows L2
def top (i : Nat) : Stmt := PySem.Challenge.pw_onlycarries_k11_faults_of_rows.main.body.getD i (.Pass ⟨0, 0, 0, 0⟩)
abbrev st_as_tuple : Stmt := top 4
abbrev sc_as_tuple : Scope := defScope st_as_tuple
abbrev N_as_tuple : List Str := ["value"]
abbrev ow_as_tuple : Ow := owS []
abbrev d_as_tuple : He.DefD := ⟨("as_tuple", none), "as_tuple", "as_tuple", defArgs st_as_tuple, defBody st_as_tuple, sc_as_tuple, [], []⟩
abbrev st_is_integer : Stmt := top 1
abbrev sc_is_integer : Scope := defScope st_is_integer
abbrev N_is_integer : List Str := ["value"]
abbrev ow_is_integer : Ow := owS []
abbrev d_is_integer : He.DefD := ⟨("is_integer", none), "is_integer", "is_integer", defArgs st_is_integer, defBody st_is_integer, sc_is_integer, [], []⟩
abbrev st_is_below : Stmt := top 5
abbrev sc_is_below : Scope := defScope st_is_below
abbrev N_is_below : List Str := ["value", "limit"]
abbrev ow_is_below : Ow := owS []
abbrev d_is_below : He.DefD := ⟨("is_below", none), "is_below", "is_below", defArgs st_is_below, defBody st_is_below, sc_is_below, [], []⟩
abbrev st_are_values : Stmt := top 25
abbrev sc_are_values : Scope := defScope st_are_values
abbrev N_are_values : List Str := ["numbers", "many", "number"]
abbrev ow_are_values : Ow := owS []
abbrev d_are_values : He.DefD := ⟨("are_values", none), "are_values", "are_values", defArgs st_are_values, defBody st_are_values, sc_are_values, [], []⟩
abbrev st_is_count_deed : Stmt := top 26
abbrev sc_is_count_deed : Scope := defScope st_is_count_deed
abbrev N_is_count_deed : List Str := ["value", "many", "modulus", "rest", "parts"]
abbrev ow_is_count_deed : Ow := owS []
abbrev d_is_count_deed : He.DefD := ⟨("is_count_deed", none), "is_count_deed", "is_count_deed", defArgs st_is_count_deed, defBody st_is_count_deed, sc_is_count_deed, [], []⟩
abbrev st_is_deed : Stmt := top 27
abbrev sc_is_deed : Scope := defScope st_is_deed
abbrev N_is_deed : List Str := ["value", "many"]
abbrev ow_is_deed : Ow := owS []
abbrev d_is_deed : He.DefD := ⟨("is_deed", none), "is_deed", "is_deed", defArgs st_is_deed, defBody st_is_deed, sc_is_deed, [], []⟩
abbrev st_is_inputs : Stmt := top 3
abbrev sc_is_inputs : Scope := defScope st_is_inputs
abbrev N_is_inputs : List Str := ["value"]
abbrev ow_is_inputs : Ow := owS []
abbrev d_is_inputs : He.DefD := ⟨("is_inputs", none), "is_inputs", "is_inputs", defArgs st_is_inputs, defBody st_is_inputs, sc_is_inputs, [], []⟩
abbrev st_Row_init : Stmt := inClass (top 30) 0
abbrev sc_Row_init : Scope := defScope st_Row_init
abbrev N_Row_init : List Str := ["self", "inputs", "deeds", "out", "kept", "place", "deed"]
abbrev ow_Row_init : Ow := ⟨fun i => i == 0, none⟩
abbrev d_Row_init : He.DefD := ⟨("Row", some "__init__"), "__init__", "Row.__init__", defArgs st_Row_init, defBody st_Row_init, sc_Row_init, [], []⟩
abbrev st_is_number : Stmt := top 2
abbrev sc_is_number : Scope := defScope st_is_number
abbrev N_is_number : List Str := ["value"]
abbrev ow_is_number : Ow := owS []
abbrev d_is_number : He.DefD := ⟨("is_number", none), "is_number", "is_number", defArgs st_is_number, defBody st_is_number, sc_is_number, [], []⟩
abbrev st_is_word : Stmt := top 6
abbrev sc_is_word : Scope := defScope st_is_word
abbrev N_is_word : List Str := ["value", "width"]
abbrev ow_is_word : Ow := owS []
abbrev d_is_word : He.DefD := ⟨("is_word", none), "is_word", "is_word", defArgs st_is_word, defBody st_is_word, sc_is_word, [], []⟩
abbrev st_are_words : Stmt := top 7
abbrev sc_are_words : Scope := defScope st_are_words
abbrev N_are_words : List Str := ["value", "width", "least", "most", "words", "word"]
abbrev ow_are_words : Ow := owS []
abbrev d_are_words : He.DefD := ⟨("are_words", none), "are_words", "are_words", defArgs st_are_words, defBody st_are_words, sc_are_words, [], []⟩
abbrev st_counted_word : Stmt := top 28
abbrev sc_counted_word : Scope := defScope st_counted_word
abbrev N_counted_word : List Str := ["width", "modulus", "rest", "words", "word", "count", "place", "part"]
abbrev ow_counted_word : Ow := owS []
abbrev d_counted_word : He.DefD := ⟨("counted_word", none), "counted_word", "counted_word", defArgs st_counted_word, defBody st_counted_word, sc_counted_word, [], []⟩
abbrev st_deed_word : Stmt := top 29
abbrev sc_deed_word : Scope := defScope st_deed_word
abbrev N_deed_word : List Str := ["deed", "width", "words", "name", "full", "one", "other", "i"]
abbrev ow_deed_word : Ow := owS []
abbrev d_deed_word : He.DefD := ⟨("deed_word", none), "deed_word", "deed_word", defArgs st_deed_word, defBody st_deed_word, sc_deed_word, [], []⟩
abbrev st_Row_all_words : Stmt := inClass (top 30) 3
abbrev sc_Row_all_words : Scope := defScope st_Row_all_words
abbrev N_Row_all_words : List Str := ["self", "width", "words", "told", "deed"]
abbrev ow_Row_all_words : Ow := owS []
abbrev d_Row_all_words : He.DefD := ⟨("Row", some "all_words"), "all_words", "Row.all_words", defArgs st_Row_all_words, defBody st_Row_all_words, sc_Row_all_words, [], []⟩
abbrev st_Row_write : Stmt := inClass (top 30) 4
abbrev sc_Row_write : Scope := defScope st_Row_write
abbrev N_Row_write : List Str := ["self", "width", "words"]
abbrev ow_Row_write : Ow := owS []
abbrev d_Row_write : He.DefD := ⟨("Row", some "write"), "write", "Row.write", defArgs st_Row_write, defBody st_Row_write, sc_Row_write, [], []⟩
abbrev st__law_alike : Stmt := top 44
abbrev sc__law_alike : Scope := defScope st__law_alike
abbrev N__law_alike : List Str := ["actual", "due", "k"]
abbrev ow__law_alike : Ow := owS []
abbrev d__law_alike : He.DefD := ⟨("_law_alike", none), "_law_alike", "_law_alike", defArgs st__law_alike, defBody st__law_alike, sc__law_alike, [], []⟩
abbrev st__law_in_range : Stmt := top 36
abbrev sc__law_in_range : Scope := defScope st__law_in_range
abbrev N__law_in_range : List Str := ["thing", "low", "high"]
abbrev ow__law_in_range : Ow := owS []
abbrev d__law_in_range : He.DefD := ⟨("_law_in_range", none), "_law_in_range", "_law_in_range", defArgs st__law_in_range, defBody st__law_in_range, sc__law_in_range, [], []⟩
abbrev st__law_refused : Stmt := top 47
abbrev sc__law_refused : Scope := defScope st__law_refused
abbrev N__law_refused : List Str := ["row", "which", "width", "chosen", "first", "e"]
abbrev ow__law_refused : Ow := owS []
abbrev d__law_refused : He.DefD := ⟨("_law_refused", none), "_law_refused", "_law_refused", defArgs st__law_refused, defBody st__law_refused, sc__law_refused, [], []⟩
abbrev st__law_calls_refused : Stmt := top 48
abbrev sc__law_calls_refused : Scope := defScope st__law_calls_refused
abbrev N__law_calls_refused : List Str := ["row", "width", "draws", "inputs", "chosen", "at", "spoilt", "wrong", "which"]
abbrev ow__law_calls_refused : Ow := owS []
abbrev d__law_calls_refused : He.DefD := ⟨("_law_calls_refused", none), "_law_calls_refused", "_law_calls_refused", defArgs st__law_calls_refused, defBody st__law_calls_refused, sc__law_calls_refused, [], []⟩
abbrev st__law_cell : Stmt := top 32
abbrev sc__law_cell : Scope := defScope st__law_cell
abbrev N__law_cell : List Str := ["script", "k"]
abbrev ow__law_cell : Ow := owS []
abbrev d__law_cell : He.DefD := ⟨("_law_cell", none), "_law_cell", "_law_cell", defArgs st__law_cell, defBody st__law_cell, sc__law_cell, [], []⟩
abbrev st__law_deed : Stmt := top 35
abbrev sc__law_deed : Scope := defScope st__law_deed
abbrev N__law_deed : List Str := ["draws", "ready", "name", "one", "other", "prime", "parts"]
abbrev ow__law_deed : Ow := owS []
abbrev d__law_deed : He.DefD := ⟨("_law_deed", none), "_law_deed", "_law_deed", defArgs st__law_deed, defBody st__law_deed, sc__law_deed, [], []⟩
abbrev st__law_mixed : Stmt := top 33
abbrev sc__law_mixed : Scope := defScope st__law_mixed
abbrev N__law_mixed : List Str := ["cell", "k", "once", "twice"]
abbrev ow__law_mixed : Ow := owS []
abbrev d__law_mixed : He.DefD := ⟨("_law_mixed", none), "_law_mixed", "_law_mixed", defArgs st__law_mixed, defBody st__law_mixed, sc__law_mixed, [], []⟩
abbrev st__law_draws : Stmt := top 34
abbrev sc__law_draws : Scope := defScope st__law_draws
abbrev N__law_draws : List Str := ["cell", "sizes", "found", "left", "k"]
abbrev ow__law_draws : Ow := owS []
abbrev d__law_draws : He.DefD := ⟨("_law_draws", none), "_law_draws", "_law_draws", defArgs st__law_draws, defBody st__law_draws, sc__law_draws, [], []⟩
abbrev st__law_all_in_range : Stmt := top 37
abbrev sc__law_all_in_range : Scope := defScope st__law_all_in_range
abbrev N__law_all_in_range : List Str := ["members", "low", "high", "member"]
abbrev ow__law_all_in_range : Ow := owS []
abbrev d__law_all_in_range : He.DefD := ⟨("_law_all_in_range", none), "_law_all_in_range", "_law_all_in_range", defArgs st__law_all_in_range, defBody st__law_all_in_range, sc__law_all_in_range, [], []⟩
abbrev st__law_is_deed : Stmt := top 38
abbrev sc__law_is_deed : Scope := defScope st__law_is_deed
abbrev N__law_is_deed : List Str := ["deed", "ready"]
abbrev ow__law_is_deed : Ow := owS []
abbrev d__law_is_deed : He.DefD := ⟨("_law_is_deed", none), "_law_is_deed", "_law_is_deed", defArgs st__law_is_deed, defBody st__law_is_deed, sc__law_is_deed, [], []⟩
abbrev st__law_alike_members : Stmt := top 45
abbrev sc__law_alike_members : Scope := defScope st__law_alike_members
abbrev N__law_alike_members : List Str := ["deeds", "kept", "j"]
abbrev ow__law_alike_members : Ow := owS []
abbrev d__law_alike_members : He.DefD := ⟨("_law_alike_members", none), "_law_alike_members", "_law_alike_members", defArgs st__law_alike_members, defBody st__law_alike_members, sc__law_alike_members, [], []⟩
abbrev st__law_fault : Stmt := top 39
abbrev sc__law_fault : Scope := defScope st__law_fault
abbrev N__law_fault : List Str := ["inputs", "deeds", "out", "j"]
abbrev ow__law_fault : Ow := owS []
abbrev d__law_fault : He.DefD := ⟨("_law_fault", none), "_law_fault", "_law_fault", defArgs st__law_fault, defBody st__law_fault, sc__law_fault, [], []⟩
abbrev st__law_made_rightly : Stmt := top 46
abbrev sc__law_made_rightly : Scope := defScope st__law_made_rightly
abbrev N__law_made_rightly : List Str := ["inputs", "deeds", "out", "due", "kept", "row", "e"]
abbrev ow__law_made_rightly : Ow := owS []
abbrev d__law_made_rightly : He.DefD := ⟨("_law_made_rightly", none), "_law_made_rightly", "_law_made_rightly", defArgs st__law_made_rightly, defBody st__law_made_rightly, sc__law_made_rightly, [], []⟩
abbrev st__law_spoilt_number : Stmt := top 40
abbrev sc__law_spoilt_number : Scope := defScope st__law_spoilt_number
abbrev N__law_spoilt_number : List Str := ["ready", "draws", "strange"]
abbrev ow__law_spoilt_number : Ow := owS []
abbrev d__law_spoilt_number : He.DefD := ⟨("_law_spoilt_number", none), "_law_spoilt_number", "_law_spoilt_number", defArgs st__law_spoilt_number, defBody st__law_spoilt_number, sc__law_spoilt_number, [], []⟩
abbrev st__law_spoilt_count : Stmt := top 41
abbrev sc__law_spoilt_count : Scope := defScope st__law_spoilt_count
abbrev N__law_spoilt_count : List Str := ["deed", "ready", "draws", "strange", "parts", "at"]
abbrev ow__law_spoilt_count : Ow := owS []
abbrev d__law_spoilt_count : He.DefD := ⟨("_law_spoilt_count", none), "_law_spoilt_count", "_law_spoilt_count", defArgs st__law_spoilt_count, defBody st__law_spoilt_count, sc__law_spoilt_count, [], []⟩
abbrev st__law_spoilt : Stmt := top 42
abbrev sc__law_spoilt : Scope := defScope st__law_spoilt
abbrev N__law_spoilt : List Str := ["deed", "ready", "draws", "row", "things", "names", "at"]
abbrev ow__law_spoilt : Ow := owS []
abbrev d__law_spoilt : He.DefD := ⟨("_law_spoilt", none), "_law_spoilt", "_law_spoilt", defArgs st__law_spoilt, defBody st__law_spoilt, sc__law_spoilt, [], []⟩
abbrev st__law_spoilt_deeds : Stmt := top 43
abbrev sc__law_spoilt_deeds : Scope := defScope st__law_spoilt_deeds
abbrev N__law_spoilt_deeds : List Str := ["inputs", "deeds", "draws", "members", "counts", "at", "k", "j"]
abbrev ow__law_spoilt_deeds : Ow := owS []
abbrev d__law_spoilt_deeds : He.DefD := ⟨("_law_spoilt_deeds", none), "_law_spoilt_deeds", "_law_spoilt_deeds", defArgs st__law_spoilt_deeds, defBody st__law_spoilt_deeds, sc__law_spoilt_deeds, [], []⟩
abbrev st__law_holds : Stmt := top 49
abbrev sc__law_holds : Scope := defScope st__law_holds
abbrev N__law_holds : List Str := ["script", "draws", "inputs", "deeds", "j", "total", "spoils", "some_inputs", "some_deeds", "out", "wrong", "none", "prime", "turn"]
abbrev ow__law_holds : Ow := owS []
abbrev d__law_holds : He.DefD := ⟨("_law_holds", none), "_law_holds", "_law_holds", defArgs st__law_holds, defBody st__law_holds, sc__law_holds, [], []⟩
abbrev st_law : Stmt := top 50
abbrev sc_law : Scope := defScope st_law
abbrev N_law : List Str := ["script"]
abbrev ow_law : Ow := owS []
abbrev d_law : He.DefD := ⟨("law", none), "law", "law", defArgs st_law, defBody st_law, sc_law, [], []⟩
abbrev st_InvalidRow_init : Stmt := inClass (top 14) 0
abbrev sc_InvalidRow_init : Scope := defScope st_InvalidRow_init
abbrev N_InvalidRow_init : List Str := ["self", "part", "place", "__class__"]
abbrev d_InvalidRow_init : He.DefD := ⟨("InvalidRow", some "__init__"), "__init__", "InvalidRow.__init__", defArgs st_InvalidRow_init, defBody st_InvalidRow_init, sc_InvalidRow_init, [], []⟩
abbrev st_InvalidNumber_init : Stmt := inClass (top 10) 0
abbrev sc_InvalidNumber_init : Scope := defScope st_InvalidNumber_init
abbrev N_InvalidNumber_init : List Str := ["self", "value", "__class__"]
abbrev d_InvalidNumber_init : He.DefD := ⟨("InvalidNumber", some "__init__"), "__init__", "InvalidNumber.__init__", defArgs st_InvalidNumber_init, defBody st_InvalidNumber_init, sc_InvalidNumber_init, [], []⟩
abbrev st_InvalidWords_init : Stmt := inClass (top 11) 0
abbrev sc_InvalidWords_init : Scope := defScope st_InvalidWords_init
abbrev N_InvalidWords_init : List Str := ["self", "value", "__class__"]
abbrev d_InvalidWords_init : He.DefD := ⟨("InvalidWords", some "__init__"), "__init__", "InvalidWords.__init__", defArgs st_InvalidWords_init, defBody st_InvalidWords_init, sc_InvalidWords_init, [], []⟩
abbrev FILE : Str := "/claim/cut.py"
abbrev xfs : List He.DefD := [d_InvalidRow_init, d_InvalidNumber_init, d_InvalidWords_init]
abbrev fa : List He.Fa := [.free "range", .free "len", .free "list", .free "isinstance", .free "tuple", .free "enumerate", .free "int", .free "bool", .free "str", .glo "SIZES", .free "all", .free "sum", .glo "InvalidMachine", .glo "InvalidRow", .glo "InvalidMarks", .glo "InvalidKind", .glo "InvalidPrimes", .glo "InvalidText", .glo "InvalidCommand", .glo "Undefined", .glo "NothingToDo", .glo "NothingKept", .glo "InvalidReading", .glo "InvalidNumber", .glo "InvalidWords", .free "ValueError", .glo "CarryError", .glo "Row", .glo "as_tuple", .glo "is_integer", .glo "is_below", .glo "are_values", .glo "is_count_deed", .glo "is_deed", .glo "is_inputs", .mkr "Row", .glo "is_number", .glo "is_word", .glo "are_words", .glo "counted_word", .glo "deed_word", .cls "Row", .meth "Row" "all_words", .meth "Row" "write", .glo "_law_alike", .glo "_law_in_range", .glo "_law_refused", .glo "_law_calls_refused", .glo "_law_cell", .glo "_law_deed", .glo "_law_mixed", .glo "_law_draws", .glo "_law_all_in_range", .glo "_law_is_deed", .glo "_law_alike_members", .glo "_law_fault", .glo "_law_made_rightly", .glo "_law_spoilt_number", .glo "_law_spoilt_count", .glo "_law_spoilt", .glo "_law_spoilt_deeds", .glo "_law_holds", .glo "law", .free "super"]
abbrev fns : List He.DefD := [d_as_tuple, d_is_integer, d_is_below, d_are_values, d_is_count_deed, d_is_deed, d_is_inputs, d_Row_init, d_is_number, d_is_word, d_are_words, d_counted_word, d_deed_word, d_Row_all_words, d_Row_write, d__law_alike, d__law_in_range, d__law_refused, d__law_calls_refused, d__law_cell, d__law_deed, d__law_mixed, d__law_draws, d__law_all_in_range, d__law_is_deed, d__law_alike_members, d__law_fault, d__law_made_rightly, d__law_spoilt_number, d__law_spoilt_count, d__law_spoilt, d__law_spoilt_deeds, d__law_holds, d_law]
abbrev tbs : List He.Tab := [tabT "SIZES" tab_SIZES]
abbrev mss : List (Frag → Bool) := [kitC CS, attB ["Row"] "inputs", attB ["Row"] "deeds", attB ["Row"] "out", tabB "SIZES" tab_SIZES, ersB ES EALL EFL, errB FILE "InvalidRow" "InvalidRow.__init__" ["part", "place"], errB FILE "InvalidNumber" "InvalidNumber.__init__" ["value"], errB FILE "InvalidWords" "InvalidWords.__init__" ["value"]]
abbrev Fs (P : Program) (w : World) (K : Frag) (mg : Str → Option Value) : Prop := FactsY fa fns xfs tbs mss FILE P w K mg
section
variable {P : Program} {w : World} {K : Frag} {mg : Str → Option Value} {base : Heap}
theorem S_InvalidRow_init : NdefX.NScope N_InvalidRow_init ["self", "part", "place"] ["__class__"] sc_InvalidRow_init := NdefX.nscope_by (by decide +kernel)
theorem er_InvalidRow (Y : Fs P w K mg) : ErrOk P w K mg base 1 "InvalidRow" ["part", "place"] :=
  err_ok (k := 0) (self := "self") (N := N_InvalidRow_init) (ps := ["self", "part", "place"]) (Y.err 0 6 (d := d_InvalidRow_init) (c := "InvalidRow") (fs := ["part", "place"])) (Y.glo 13) (Y.free 63) Y.ps rfl S_InvalidRow_init rfl rfl rfl rfl (fun _ _ _ _ _ _ _ us hl => match us, hl with | [_, _, _], _ => rfl)
    (fun _ _ _ _ _ _ _ _ => (pss_cons (ps_ost (pv 0) (pv 1)) (pss_one (ps_ost (pv 0) (pv 2)))))
    (fun a ws H1 Dn σ h0 h1 hl hn q => fld_two (Y.err 0 6 (d := d_InvalidRow_init) (c := "InvalidRow") (fs := ["part", "place"])).T ((Y.err 0 6 (d := d_InvalidRow_init) (c := "InvalidRow") (fs := ["part", "place"])).no _ (by simp)) ((Y.err 0 6 (d := d_InvalidRow_init) (c := "InvalidRow") (fs := ["part", "place"])).no _ (by simp)) h0 h1 hl hn q) (fun _ _ _ _ => rfl) (fun _ _ _ _ => rfl) (fun _ _ _ _ => rfl) (fun _ _ _ _ => rfl)
theorem S_InvalidNumber_init : NdefX.NScope N_InvalidNumber_init ["self", "value"] ["__class__"] sc_InvalidNumber_init := NdefX.nscope_by (by decide +kernel)
theorem er_InvalidNumber (Y : Fs P w K mg) : ErrOk P w K mg base 1 "InvalidNumber" ["value"] :=
  err_ok (k := 0) (self := "self") (N := N_InvalidNumber_init) (ps := ["self", "value"]) (Y.err 1 7 (d := d_InvalidNumber_init) (c := "InvalidNumber") (fs := ["value"])) (Y.glo 23) (Y.free 63) Y.ps rfl S_InvalidNumber_init rfl rfl rfl rfl (fun _ _ _ _ _ _ _ us hl => match us, hl with | [_, _], _ => rfl)
    (fun _ _ _ _ _ _ _ _ => (pss_one (ps_ost (pv 0) (pv 1))))
    (fun a ws H1 Dn σ h0 h1 hl hn q => fld_one (Y.err 1 7 (d := d_InvalidNumber_init) (c := "InvalidNumber") (fs := ["value"])).T ((Y.err 1 7 (d := d_InvalidNumber_init) (c := "InvalidNumber") (fs := ["value"])).no _ (by simp)) h0 h1 hl hn q) (fun _ _ _ _ => rfl) (fun _ _ _ _ => rfl) (fun _ _ _ _ => rfl) (fun _ _ _ _ => rfl)
theorem S_InvalidWords_init : NdefX.NScope N_InvalidWords_init ["self", "value"] ["__class__"] sc_InvalidWords_init := NdefX.nscope_by (by decide +kernel)
theorem er_InvalidWords (Y : Fs P w K mg) : ErrOk P w K mg base 1 "InvalidWords" ["value"] :=
  err_ok (k := 0) (self := "self") (N := N_InvalidWords_init) (ps := ["self", "value"]) (Y.err 2 8 (d := d_InvalidWords_init) (c := "InvalidWords") (fs := ["value"])) (Y.glo 24) (Y.free 63) Y.ps rfl S_InvalidWords_init rfl rfl rfl rfl (fun _ _ _ _ _ _ _ us hl => match us, hl with | [_, _], _ => rfl)
    (fun _ _ _ _ _ _ _ _ => (pss_one (ps_ost (pv 0) (pv 1))))
    (fun a ws H1 Dn σ h0 h1 hl hn q => fld_one (Y.err 2 8 (d := d_InvalidWords_init) (c := "InvalidWords") (fs := ["value"])).T ((Y.err 2 8 (d := d_InvalidWords_init) (c := "InvalidWords") (fs := ["value"])).no _ (by simp)) h0 h1 hl hn q) (fun _ _ _ _ => rfl) (fun _ _ _ _ => rfl) (fun _ _ _ _ => rfl) (fun _ _ _ _ => rfl)
theorem SH__law_alike : FnScope N__law_alike ["actual", "due"] sc__law_alike := ⟨rfl, rfl, rfl, by decide +kernel, rfl, by decide +kernel, by decide +kernel⟩
theorem cH_law_alike (Y : Fs P w K mg) : ∀ k : Nat, CallH P w K mg base (1 + k) "_law_alike" d__law_alike ["actual", "due"] 2 (m_law_alike k)
  | 0 => def_okH (d := d__law_alike) (N := N__law_alike) (ps := ["actual", "due"]) (p := 2) (m := dead) (k := 0) (ow := ow__law_alike) (oN := owS []) (oB := owS []) (Y.def_ 15) (Y.glo 44) SH__law_alike rfl rfl (by decide) (fun _ _ _ _ _ _ us hl => match us, hl with | [_, _], _ => rfl) (fun cdv A outer s H E q T => ss_dead)
  | k + 1 => def_okH (d := d__law_alike) (N := N__law_alike) (ps := ["actual", "due"]) (p := 2) (k := 1 + k) (ow := ow__law_alike) (oN := owS []) (oB := owS []) (Y.def_ 15) (Y.glo 44) SH__law_alike rfl rfl (by decide) (fun _ _ _ _ _ _ us hl => match us, hl with | [_, _], _ => rfl) (fun cdv A outer s H E q T => (ss_cons (s_if (t_tst (w_of (x_isiT (cs := CS) (ts := [.lst, .tup]) rfl (kit_of_b (Y.more 0)) rfl (Y.free 3) (w_of (x_var (pv 1) rfl)) (TyL.cons (t := .lst) (pe_bltn rfl (Y.free 2) hv_list rfl) (TyL.cons (t := .tup) (pe_bltn rfl (Y.free 4) hv_tuple rfl) TyL.nil rfl) rfl) (by decide))) (by intro _; rfl)) (ss_cons (s_if (PW.pt (t_or (t_not (t_tst (w_of (x_isiT (cs := CS) (ts := [.lst, .tup]) rfl (kit_of_b (Y.more 0)) rfl (Y.free 3) (w_of (x_var (pv 0) rfl)) (TyL.cons (t := .lst) (pe_bltn rfl (Y.free 2) hv_list rfl) (TyL.cons (t := .tup) (pe_bltn rfl (Y.free 4) hv_tuple rfl) TyL.nil rfl) rfl) (by decide))) (by intro _; rfl))) (t_or1 (t_cmp T.ne n_ne b_ne (w_of (x_isi1 (cs := CS) (t := .lst) rfl (kit_of_b (Y.more 0)) rfl (Y.free 3) (w_of (x_var (pv 0) rfl)) (pe_bltn rfl (Y.free 2) hv_list rfl))) (w_of (x_isi1 (cs := CS) (t := .lst) rfl (kit_of_b (Y.more 0)) rfl (Y.free 3) (w_of (x_var (pv 1) rfl)) (pe_bltn rfl (Y.free 2) hv_list rfl))) rfl)))) (ss_one (s_ret x_bl)) ss_nil)
  (ss_cons (s_if (t_cmp T.ne n_ne b_ne (w_of (x_b1 v_len n_len rfl (Y.free 1) hv_len (w_of (x_var (pv 0) rfl)))) (w_of (x_b1 v_len n_len rfl (Y.free 1) hv_len (w_of (x_var (pv 1) rfl)))) rfl) (ss_one (s_ret x_bl)) ss_nil)
  (ss_cons (s_forH T.po T.hot (i_rng1H rfl (Y.free 0) (x_b1 v_len n_len rfl (Y.free 1) hv_len (w_of (x_var (pv 1) rfl)))) (g_nm (pg_name (i := 2) T.nd rfl (Or.inl rfl)) rfl) (ss_one (s_if (t_not (t_tst (w_of (x_own1H T (cH_law_alike Y k) (Nat.le_refl _) rfl (xa_cons (x_idx T.ix (w_of (x_var (pv 0) rfl)) (w_of (x_var (pv 2) rfl))) (xa_cons (x_idx T.ix (w_of (x_var (pv 1) rfl)) (w_of (x_var (pv 2) rfl))) xa_nil)))) (by intro _; rfl))) (ss_one (s_ret x_bl)) ss_nil)))
  (ss_one (s_ret x_bl))))) ss_nil)
  (ss_cons (s_if (t_isN (w_of (x_var (pv 1) rfl))) (ss_one (s_ret (x_isN (w_of (x_var (pv 0) rfl))))) ss_nil)
  (ss_cons (s_if (PW.pt (t_or (t_tst (w_of (x_isi1 (cs := CS) (t := .bl) rfl (kit_of_b (Y.more 0)) rfl (Y.free 3) (w_of (x_var (pv 1) rfl)) (pe_bltn rfl (Y.free 7) hv_bool rfl))) (by intro _; rfl)) (t_or1 (t_tst (w_of (x_isi1 (cs := CS) (t := .bl) rfl (kit_of_b (Y.more 0)) rfl (Y.free 3) (w_of (x_var (pv 0) rfl)) (pe_bltn rfl (Y.free 7) hv_bool rfl))) (by intro _; rfl))))) (ss_one (s_ret (x_and (x_isi1 (cs := CS) (t := .bl) rfl (kit_of_b (Y.more 0)) rfl (Y.free 3) (w_of (x_var (pv 1) rfl)) (pe_bltn rfl (Y.free 7) hv_bool rfl)) (x_and (x_isi1 (cs := CS) (t := .bl) rfl (kit_of_b (Y.more 0)) rfl (Y.free 3) (w_of (x_var (pv 0) rfl)) (pe_bltn rfl (Y.free 7) hv_bool rfl)) (x_one (x_cmp T.eq n_eq (w_of (x_var (pv 0) rfl)) (w_of (x_var (pv 1) rfl)) rfl)))))) ss_nil)
  (ss_cons (s_if (t_tst (w_of (x_isi1 (cs := CS) (t := .str) rfl (kit_of_b (Y.more 0)) rfl (Y.free 3) (w_of (x_var (pv 1) rfl)) (pe_bltn rfl (Y.free 8) hv_str rfl))) (by intro _; rfl)) (ss_one (s_ret (x_and (x_isi1 (cs := CS) (t := .str) rfl (kit_of_b (Y.more 0)) rfl (Y.free 3) (w_of (x_var (pv 0) rfl)) (pe_bltn rfl (Y.free 8) hv_str rfl)) (x_one (x_cmp T.eq n_eq (w_of (x_var (pv 0) rfl)) (w_of (x_var (pv 1) rfl)) rfl))))) ss_nil)
  (ss_one (s_ret (x_and (x_isi1 (cs := CS) (t := .int) rfl (kit_of_b (Y.more 0)) rfl (Y.free 3) (w_of (x_var (pv 0) rfl)) (pe_bltn rfl (Y.free 6) hv_int rfl)) (x_one (x_cmp T.eq n_eq (w_of (x_var (pv 0) rfl)) (w_of (x_var (pv 1) rfl)) rfl))))))))))
theorem SH__law_in_range : FnScope N__law_in_range ["thing", "low", "high"] sc__law_in_range := ⟨rfl, rfl, rfl, by decide +kernel, rfl, by decide +kernel, by decide +kernel⟩
theorem cH_law_in_range (Y : Fs P w K mg) : CallH P w K mg base 1 "_law_in_range" d__law_in_range ["thing", "low", "high"] 3 m_law_in_range :=
  def_okH (d := d__law_in_range) (N := N__law_in_range) (ps := ["thing", "low", "high"]) (p := 3) (m := b__law_in_range) (k := 0) (ow := ow__law_in_range) (oN := owS []) (oB := owS []) (Y.def_ 16) (Y.glo 45) SH__law_in_range rfl rfl (by decide) (fun _ _ _ _ _ _ us hl => match us, hl with | [_, _, _], _ => rfl) (fun cdv A outer s H E q T => (ss_one (s_ret (x_and (x_isi1 (cs := CS) (t := .int) rfl (kit_of_b (Y.more 0)) rfl (Y.free 3) (w_of (x_var (pv 0) rfl)) (pe_bltn rfl (Y.free 6) hv_int rfl)) (x_and (x_not (x_isi1 (cs := CS) (t := .bl) rfl (kit_of_b (Y.more 0)) rfl (Y.free 3) (w_of (x_var (pv 0) rfl)) (pe_bltn rfl (Y.free 7) hv_bool rfl))) (x_one (x_chain y_le y_le n_le n_le (w_of (x_var (pv 1) rfl)) (w_of (x_var (pv 0) rfl)) (w_of (x_var (pv 2) rfl)))))))))
theorem SH__law_all_in_range : FnScope N__law_all_in_range ["members", "low", "high"] sc__law_all_in_range := ⟨rfl, rfl, rfl, by decide +kernel, rfl, by decide +kernel, by decide +kernel⟩
theorem cH_law_all_in_range (Y : Fs P w K mg) : CallH P w K mg base 2 "_law_all_in_range" d__law_all_in_range ["members", "low", "high"] 3 m_law_all_in_range :=
  def_okH (d := d__law_all_in_range) (N := N__law_all_in_range) (ps := ["members", "low", "high"]) (p := 3) (m := b__law_all_in_range) (k := 1) (ow := ow__law_all_in_range) (oN := owS []) (oB := owS []) (Y.def_ 23) (Y.glo 52) SH__law_all_in_range rfl rfl (by decide) (fun _ _ _ _ _ _ us hl => match us, hl with | [_, _, _], _ => rfl) (fun cdv A outer s H E q T => (ss_cons (s_forH T.po T.hot (i_seqH (x_var (pv 0) rfl)) (g_nm (pg_name (i := 3) T.nd rfl (Or.inl rfl)) rfl) (ss_one (s_if (t_not (t_tst (w_of (x_own1H T (cH_law_in_range Y) (by decide) rfl (xa_cons (x_var (pv 3) rfl) (xa_cons (x_var (pv 1) rfl) (xa_cons (x_var (pv 2) rfl) xa_nil))))) (by intro _; rfl))) (ss_one (s_ret x_bl)) ss_nil)))
  (ss_one (s_ret x_bl))))
theorem SH__law_is_deed : FnScope N__law_is_deed ["deed", "ready"] sc__law_is_deed := ⟨rfl, rfl, rfl, by decide +kernel, rfl, by decide +kernel, by decide +kernel⟩
theorem cH_law_is_deed (Y : Fs P w K mg) : CallH P w K mg base 3 "_law_is_deed" d__law_is_deed ["deed", "ready"] 2 m_law_is_deed :=
  def_okH (d := d__law_is_deed) (N := N__law_is_deed) (ps := ["deed", "ready"]) (p := 2) (m := b__law_is_deed) (k := 2) (ow := ow__law_is_deed) (oN := owS []) (oB := owS []) (Y.def_ 24) (Y.glo 53) SH__law_is_deed rfl rfl (by decide) (fun _ _ _ _ _ _ us hl => match us, hl with | [_, _], _ => rfl) (fun cdv A outer s H E q T => (ss_cons (s_if (PW.pt (t_or (t_not (t_tst (w_of (x_isi1 (cs := CS) (t := .tup) rfl (kit_of_b (Y.more 0)) rfl (Y.free 3) (w_of (x_var (pv 0) rfl)) (pe_bltn rfl (Y.free 4) hv_tuple rfl))) (by intro _; rfl))) (t_or (t_cmp T.eq n_eq b_eq (w_of (x_b1 v_len n_len rfl (Y.free 1) hv_len (w_of (x_var (pv 0) rfl)))) (w_of x_int) rfl) (t_or1 (t_not (t_tst (w_of (x_isi1 (cs := CS) (t := .str) rfl (kit_of_b (Y.more 0)) rfl (Y.free 3) (w_of (x_idx T.ix (w_of (x_var (pv 0) rfl)) (w_of x_int))) (pe_bltn rfl (Y.free 8) hv_str rfl))) (by intro _; rfl))))))) (ss_one (s_ret x_bl)) ss_nil)
  (ss_cons (s_if (t_cmp T.eq n_eq b_eq (w_of (x_idx T.ix (w_of (x_var (pv 0) rfl)) (w_of x_int))) (w_of (x_str (s := "count"))) rfl) (ss_cons (s_if (PW.pt (t_or (t_cmp T.ne n_ne b_ne (w_of (x_b1 v_len n_len rfl (Y.free 1) hv_len (w_of (x_var (pv 0) rfl)))) (w_of x_int) rfl) (t_or (t_not (t_tst (w_of (x_own1H T (cH_law_in_range Y) (by decide) rfl (xa_cons (x_idx T.ix (w_of (x_var (pv 0) rfl)) (w_of x_int)) (xa_cons x_int (xa_cons x_int xa_nil))))) (by intro _; rfl))) (t_or1 (t_cmp T.eq n_eq b_eq (w_of (x_idx T.ix (w_of (x_var (pv 0) rfl)) (w_of x_int))) (w_of x_int) rfl))))) (ss_one (s_ret x_bl)) ss_nil)
  (ss_cons (s_if (PW.pt (t_or (t_not (t_tst (w_of (x_own1H T (cH_law_in_range Y) (by decide) rfl (xa_cons (x_idx T.ix (w_of (x_var (pv 0) rfl)) (w_of x_int)) (xa_cons x_int (xa_cons (x_bin y_sub n_sub (w_of (x_idx T.ix (w_of (x_var (pv 0) rfl)) (w_of x_int))) (w_of x_int)) xa_nil))))) (by intro _; rfl))) (t_or1 (t_not (t_tst (w_of (x_isi1 (cs := CS) (t := .tup) rfl (kit_of_b (Y.more 0)) rfl (Y.free 3) (w_of (x_idx T.ix (w_of (x_var (pv 0) rfl)) (w_of x_int))) (pe_bltn rfl (Y.free 4) hv_tuple rfl))) (by intro _; rfl)))))) (ss_one (s_ret x_bl)) ss_nil)
  (ss_one (s_ret (x_and (x_chain y_le y_le n_le n_le (w_of x_int) (w_of (x_b1 v_len n_len rfl (Y.free 1) hv_len (w_of (x_idx T.ix (w_of (x_var (pv 0) rfl)) (w_of x_int))))) (w_of x_int)) (x_one (x_own1H T (cH_law_all_in_range Y) (by decide) rfl (xa_cons (x_idx T.ix (w_of (x_var (pv 0) rfl)) (w_of x_int)) (xa_cons x_int (xa_cons (x_bin y_sub n_sub (w_of (x_var (pv 1) rfl)) (w_of x_int)) xa_nil)))))))))) ss_nil)
  (ss_cons (s_if (t_cmp T.inn n_in b_in (w_of (x_idx T.ix (w_of (x_var (pv 0) rfl)) (w_of x_int))) (w_of (e_of (f_lst (xa_cons (x_str (s := "zero")) (xa_cons (x_str (s := "ones")) xa_nil))))) rfl) (ss_one (s_ret (x_cmp T.eq n_eq (w_of (x_b1 v_len n_len rfl (Y.free 1) hv_len (w_of (x_var (pv 0) rfl)))) (w_of x_int) rfl))) ss_nil)
  (ss_cons (s_if (t_cmp T.inn n_in b_in (w_of (x_idx T.ix (w_of (x_var (pv 0) rfl)) (w_of x_int))) (w_of (e_of (f_lst (xa_cons (x_str (s := "not")) (xa_cons (x_str (s := "shift")) (xa_cons (x_str (s := "minus")) xa_nil)))))) rfl) (ss_one (s_ret (x_and (x_cmp T.eq n_eq (w_of (x_b1 v_len n_len rfl (Y.free 1) hv_len (w_of (x_var (pv 0) rfl)))) (w_of x_int) rfl) (x_one (x_own1H T (cH_law_all_in_range Y) (by decide) rfl (xa_cons (x_slc (w_of (x_var (pv 0) rfl)) (o_some x_int) o_none) (xa_cons x_int (xa_cons (x_bin y_sub n_sub (w_of (x_var (pv 1) rfl)) (w_of x_int)) xa_nil)))))))) ss_nil)
  (ss_cons (s_if (t_cmp T.inn n_in b_in (w_of (x_idx T.ix (w_of (x_var (pv 0) rfl)) (w_of x_int))) (w_of (e_of (f_lst (xa_cons (x_str (s := "and")) (xa_cons (x_str (s := "or")) (xa_cons (x_str (s := "xor")) (xa_cons (x_str (s := "add")) (xa_cons (x_str (s := "sub")) xa_nil)))))))) rfl) (ss_one (s_ret (x_and (x_cmp T.eq n_eq (w_of (x_b1 v_len n_len rfl (Y.free 1) hv_len (w_of (x_var (pv 0) rfl)))) (w_of x_int) rfl) (x_one (x_own1H T (cH_law_all_in_range Y) (by decide) rfl (xa_cons (x_slc (w_of (x_var (pv 0) rfl)) (o_some x_int) o_none) (xa_cons x_int (xa_cons (x_bin y_sub n_sub (w_of (x_var (pv 1) rfl)) (w_of x_int)) xa_nil)))))))) ss_nil)
  (ss_one (s_ret x_bl))))))))
theorem SH__law_alike_members : FnScope N__law_alike_members ["deeds", "kept"] sc__law_alike_members := ⟨rfl, rfl, rfl, by decide +kernel, rfl, by decide +kernel, by decide +kernel⟩
theorem cH_law_alike_members (Y : Fs P w K mg) : CallH P w K mg base 14 "_law_alike_members" d__law_alike_members ["deeds", "kept"] 2 m_law_alike_members :=
  def_okH (d := d__law_alike_members) (N := N__law_alike_members) (ps := ["deeds", "kept"]) (p := 2) (m := b__law_alike_members) (k := 13) (ow := ow__law_alike_members) (oN := owS []) (oB := owS []) (Y.def_ 25) (Y.glo 54) SH__law_alike_members rfl rfl (by decide) (fun _ _ _ _ _ _ us hl => match us, hl with | [_, _], _ => rfl) (fun cdv A outer s H E q T => (ss_cons (s_if (t_cmp T.ne n_ne b_ne (w_of (x_b1 v_len n_len rfl (Y.free 1) hv_len (w_of (x_var (pv 0) rfl)))) (w_of (x_b1 v_len n_len rfl (Y.free 1) hv_len (w_of (x_var (pv 1) rfl)))) rfl) (ss_one (s_ret x_bl)) ss_nil)
  (ss_cons (s_forH T.po T.hot (i_rng1H rfl (Y.free 0) (x_b1 v_len n_len rfl (Y.free 1) hv_len (w_of (x_var (pv 1) rfl)))) (g_nm (pg_name (i := 2) T.nd rfl (Or.inl rfl)) rfl) (ss_one (s_if (PW.pt (t_and (t_tst (w_of (x_own1H T (cH_law_is_deed Y) (by decide) rfl (xa_cons (x_idx T.ix (w_of (x_var (pv 1) rfl)) (w_of (x_var (pv 2) rfl))) (xa_cons (x_bin y_add n_add (w_of x_int) (w_of (x_var (pv 2) rfl))) xa_nil)))) (by intro _; rfl)) (t_and1 (t_not (t_tst (w_of (x_own1H T (cH_law_alike Y 12) (by decide) rfl (xa_cons (x_idx T.ix (w_of (x_var (pv 0) rfl)) (w_of (x_var (pv 2) rfl))) (xa_cons (x_idx T.ix (w_of (x_var (pv 1) rfl)) (w_of (x_var (pv 2) rfl))) xa_nil)))) (by intro _; rfl)))))) (ss_one (s_ret x_bl)) ss_nil)))
  (ss_one (s_ret x_bl)))))
theorem S_as_tuple : FnScope N_as_tuple ["value"] sc_as_tuple := ⟨rfl, rfl, rfl, by decide +kernel, rfl, by decide +kernel, by decide +kernel⟩
theorem c_as_tuple (Y : Fs P w K mg) : CallOk P w K mg base 1 "as_tuple" d_as_tuple ["value"] 1 m_as_tuple :=
  def_ok (d := d_as_tuple) (N := N_as_tuple) (ps := ["value"]) (p := 1) (m := b_as_tuple) (k := 0) (ow := ow_as_tuple) (Y.def_ 0) (Y.glo 28) S_as_tuple rfl rfl (by decide) (fun _ _ _ _ _ _ us hl => match us, hl with | [_], _ => rfl) (fun cdv A outer s H E T => (ss_cons (s_if (t_tst (w_of (x_isiT (cs := CS) (ts := [.lst, .tup]) rfl (kit_of_b (Y.more 0)) rfl (Y.free 3) (w_of (x_var (pv 0) rfl)) (TyL.cons (t := .lst) (pe_bltn rfl (Y.free 2) hv_list rfl) (TyL.cons (t := .tup) (pe_bltn rfl (Y.free 4) hv_tuple rfl) TyL.nil rfl) rfl) (by decide))) (by intro _; rfl)) (ss_one (s_ret (x_t1 v_tuple n_tuple rfl (Y.free 4) hv_tuple (w_of (x_var (pv 0) rfl))))) ss_nil)
  (ss_one (s_ret x_non))))
theorem S_is_integer : FnScope N_is_integer ["value"] sc_is_integer := ⟨rfl, rfl, rfl, by decide +kernel, rfl, by decide +kernel, by decide +kernel⟩
theorem c_is_integer (Y : Fs P w K mg) : CallOk P w K mg base 1 "is_integer" d_is_integer ["value"] 1 m_is_integer :=
  def_ok (d := d_is_integer) (N := N_is_integer) (ps := ["value"]) (p := 1) (m := b_is_integer) (k := 0) (ow := ow_is_integer) (Y.def_ 1) (Y.glo 29) S_is_integer rfl rfl (by decide) (fun _ _ _ _ _ _ us hl => match us, hl with | [_], _ => rfl) (fun cdv A outer s H E T => (ss_one (s_ret (x_and (x_isi1 (cs := CS) (t := .int) rfl (kit_of_b (Y.more 0)) rfl (Y.free 3) (w_of (x_var (pv 0) rfl)) (pe_bltn rfl (Y.free 6) hv_int rfl)) (x_one (x_not (x_isi1 (cs := CS) (t := .bl) rfl (kit_of_b (Y.more 0)) rfl (Y.free 3) (w_of (x_var (pv 0) rfl)) (pe_bltn rfl (Y.free 7) hv_bool rfl))))))))
theorem S_is_below : FnScope N_is_below ["value", "limit"] sc_is_below := ⟨rfl, rfl, rfl, by decide +kernel, rfl, by decide +kernel, by decide +kernel⟩
theorem c_is_below (Y : Fs P w K mg) : CallOk P w K mg base 2 "is_below" d_is_below ["value", "limit"] 2 m_is_below :=
  def_ok (d := d_is_below) (N := N_is_below) (ps := ["value", "limit"]) (p := 2) (m := b_is_below) (k := 1) (ow := ow_is_below) (Y.def_ 2) (Y.glo 30) S_is_below rfl rfl (by decide) (fun _ _ _ _ _ _ us hl => match us, hl with | [_, _], _ => rfl) (fun cdv A outer s H E T => (ss_one (s_ret (x_and (x_own1 T (c_is_integer Y) (by decide) rfl (xa_cons (x_var (pv 0) rfl) xa_nil)) (x_one (x_chain y_le y_lt n_le n_lt (w_of x_int) (w_of (x_var (pv 0) rfl)) (w_of (x_var (pv 1) rfl))))))))
theorem S_are_values : FnScope N_are_values ["numbers", "many"] sc_are_values := ⟨rfl, rfl, rfl, by decide +kernel, rfl, by decide +kernel, by decide +kernel⟩
theorem c_are_values (Y : Fs P w K mg) : CallOk P w K mg base 3 "are_values" d_are_values ["numbers", "many"] 2 m_are_values :=
  def_ok (d := d_are_values) (N := N_are_values) (ps := ["numbers", "many"]) (p := 2) (m := b_are_values) (k := 2) (ow := ow_are_values) (Y.def_ 3) (Y.glo 31) S_are_values rfl rfl (by decide) (fun _ _ _ _ _ _ us hl => match us, hl with | [_, _], _ => rfl) (fun cdv A outer s H E T => (ss_one (s_ret (x_b1 (v_all T.calm) n_all rfl (Y.free 10) hv_all (w_of (e_of (f_lc (own := [("number", 2)]) T (i_gr (i_seq (x_var (pv 0) rfl))) (blkOk_by (N := N_are_values) (sc := sc_are_values) (own := [("number", 2)]) (by decide +kernel)) (fun _ _ _ _ _ T1 => (g_nm (pg_name (i := 2) T1.nd rfl (Or.inl rfl)) rfl)) (fun _ _ _ _ _ T1 => ts_nil) (fun _ _ _ _ _ T1 => (x_own1 T1 (c_is_below Y) (by decide) rfl (xa_cons (x_var (pv 2) rfl) (xa_cons (x_var (pv 1) rfl) xa_nil)))) (by decide))))))))
theorem S_is_count_deed : FnScope N_is_count_deed ["value", "many"] sc_is_count_deed := ⟨rfl, rfl, rfl, by decide +kernel, rfl, by decide +kernel, by decide +kernel⟩
theorem c_is_count_deed (Y : Fs P w K mg) : CallOk P w K mg base 4 "is_count_deed" d_is_count_deed ["value", "many"] 2 m_is_count_deed :=
  def_ok (d := d_is_count_deed) (N := N_is_count_deed) (ps := ["value", "many"]) (p := 2) (m := b_is_count_deed) (k := 3) (ow := ow_is_count_deed) (Y.def_ 4) (Y.glo 32) S_is_count_deed rfl rfl (by decide) (fun _ _ _ _ _ _ us hl => match us, hl with | [_, _], _ => rfl) (fun cdv A outer s H E T => (ss_cons (s_if (t_cmp T.ne n_ne b_ne (w_of (x_b1 v_len n_len rfl (Y.free 1) hv_len (w_of (x_var (pv 0) rfl)))) (w_of x_int) rfl) (ss_one (s_ret x_bl)) ss_nil)
  (ss_cons (s_gen (ps_asg (x_slc (w_of (x_var (pv 0) rfl)) (o_some x_int) o_none) (g_tup T.calm (gs_cons (g_nm (pg_name (i := 2) T.nd rfl (Or.inl rfl)) rfl) (gs_cons (g_nm (pg_name (i := 3) T.nd rfl (Or.inl rfl)) rfl) (gs_cons (g_nm (pg_name (i := 4) T.nd rfl (Or.inl rfl)) rfl) gs_nil))))))
  (ss_cons (s_if (PW.pt (t_or (t_not (t_tst (w_of (x_own1 T (c_is_integer Y) (by decide) rfl (xa_cons (x_var (pv 2) rfl) xa_nil))) (by intro _; rfl))) (t_or (t_cmp T.nin n_notin b_notin (w_of (x_var (pv 2) rfl)) (w_of (x_tup (xa_cons x_int (xa_cons x_int (xa_cons x_int xa_nil))))) rfl) (t_or1 (t_not (t_tst (w_of (x_own1 T (c_is_below Y) (by decide) rfl (xa_cons (x_var (pv 3) rfl) (xa_cons (x_var (pv 2) rfl) xa_nil)))) (by intro _; rfl))))))) (ss_one (s_ret x_bl)) ss_nil)
  (ss_one (s_ret (x_and (x_isi1 (cs := CS) (t := .tup) rfl (kit_of_b (Y.more 0)) rfl (Y.free 3) (w_of (x_var (pv 4) rfl)) (pe_bltn rfl (Y.free 4) hv_tuple rfl)) (x_and (x_chain y_le y_le n_le n_le (w_of x_int) (w_of (x_b1 v_len n_len rfl (Y.free 1) hv_len (w_of (x_var (pv 4) rfl)))) (w_of x_int)) (x_one (x_own1 T (c_are_values Y) (by decide) rfl (xa_cons (x_var (pv 4) rfl) (xa_cons (x_var (pv 1) rfl) xa_nil))))))))))))
theorem S_is_deed : FnScope N_is_deed ["value", "many"] sc_is_deed := ⟨rfl, rfl, rfl, by decide +kernel, rfl, by decide +kernel, by decide +kernel⟩
theorem c_is_deed (Y : Fs P w K mg) : CallOk P w K mg base 5 "is_deed" d_is_deed ["value", "many"] 2 m_is_deed :=
  def_ok (d := d_is_deed) (N := N_is_deed) (ps := ["value", "many"]) (p := 2) (m := b_is_deed) (k := 4) (ow := ow_is_deed) (Y.def_ 5) (Y.glo 33) S_is_deed rfl rfl (by decide) (fun _ _ _ _ _ _ us hl => match us, hl with | [_, _], _ => rfl) (fun cdv A outer s H E T => (ss_cons (s_if (PW.pt (t_or (t_not (t_tst (w_of (x_isi1 (cs := CS) (t := .tup) rfl (kit_of_b (Y.more 0)) rfl (Y.free 3) (w_of (x_var (pv 0) rfl)) (pe_bltn rfl (Y.free 4) hv_tuple rfl))) (by intro _; rfl))) (t_or (t_not (t_tst (w_of (x_var (pv 0) rfl)) (by intro _; rfl))) (t_or1 (t_not (t_tst (w_of (x_isi1 (cs := CS) (t := .str) rfl (kit_of_b (Y.more 0)) rfl (Y.free 3) (w_of (x_idx T.ix (w_of (x_var (pv 0) rfl)) (w_of x_int))) (pe_bltn rfl (Y.free 8) hv_str rfl))) (by intro _; rfl))))))) (ss_one (s_ret x_bl)) ss_nil)
  (ss_cons (s_if (t_cmp T.eq n_eq b_eq (w_of (x_idx T.ix (w_of (x_var (pv 0) rfl)) (w_of x_int))) (w_of (x_str (s := "count"))) rfl) (ss_one (s_ret (x_own1 T (c_is_count_deed Y) (by decide) rfl (xa_cons (x_var (pv 0) rfl) (xa_cons (x_var (pv 1) rfl) xa_nil))))) ss_nil)
  (ss_cons (s_if (PW.pt (t_or (t_nothas (Y.tab 0 4 9) rfl (x_idx T.ix (w_of (x_var (pv 0) rfl)) (w_of x_int))) (t_or1 (t_cmp T.ne n_ne b_ne (w_of (x_b1 v_len n_len rfl (Y.free 1) hv_len (w_of (x_var (pv 0) rfl)))) (w_of (x_bin y_add n_add (w_of (x_look (Y.tab 0 4 9) rfl (x_idx T.ix (w_of (x_var (pv 0) rfl)) (w_of x_int)))) (w_of x_int))) rfl)))) (ss_one (s_ret x_bl)) ss_nil)
  (ss_one (s_ret (x_own1 T (c_are_values Y) (by decide) rfl (xa_cons (x_slc (w_of (x_var (pv 0) rfl)) (o_some x_int) o_none) (xa_cons (x_var (pv 1) rfl) xa_nil)))))))))
theorem S_is_inputs : FnScope N_is_inputs ["value"] sc_is_inputs := ⟨rfl, rfl, rfl, by decide +kernel, rfl, by decide +kernel, by decide +kernel⟩
theorem c_is_inputs (Y : Fs P w K mg) : CallOk P w K mg base 2 "is_inputs" d_is_inputs ["value"] 1 m_is_inputs :=
  def_ok (d := d_is_inputs) (N := N_is_inputs) (ps := ["value"]) (p := 1) (m := b_is_inputs) (k := 1) (ow := ow_is_inputs) (Y.def_ 6) (Y.glo 34) S_is_inputs rfl rfl (by decide) (fun _ _ _ _ _ _ us hl => match us, hl with | [_], _ => rfl) (fun cdv A outer s H E T => (ss_one (s_ret (x_and (x_own1 T (c_is_integer Y) (by decide) rfl (xa_cons (x_var (pv 0) rfl) xa_nil)) (x_one (x_chain y_le y_le n_le n_le (w_of x_int) (w_of (x_var (pv 0) rfl)) (w_of x_int)))))))
theorem S_Row_init : FnScope N_Row_init ["self", "inputs", "deeds", "out"] sc_Row_init := ⟨rfl, rfl, rfl, by decide +kernel, rfl, by decide +kernel, by decide +kernel⟩
theorem c_Row (Y : Fs P w K mg) : MakeOk P w K mg base 6 "Row" 4 m_Row :=
  cls_ok (name := "__init__") (qual := "Row.__init__") (params := defArgs st_Row_init) (body := defBody st_Row_init) (scope := sc_Row_init) (f := He.ma K (ca K "Row") "__init__") (N := N_Row_init) (p := 4) (m := b_Row_init) (k := 5) (ow := ow_Row_init) (Y.def_ 7) (Y.glo 27) (Y.mkr 35 (x := "Row")) S_Row_init rfl rfl rfl (by decide) (by decide) (fun _ _ _ _ _ _ us hl => match us, hl with | [_, _, _, _], _ => rfl) (fun cdv A outer s H E T => (ss_cons (s_if (t_not (t_tst (w_of (x_own1 T (c_is_inputs Y) (by decide) rfl (xa_cons (x_var (pv 1) rfl) xa_nil))) (by intro _; rfl))) (ss_one (s_raise T (er_InvalidRow Y) (by decide) rfl (xa_cons (x_str (s := "inputs")) (xa_cons x_int xa_nil)))) ss_nil)
  (ss_cons (s_set (ps_set (i := 4) T.nd rfl (Or.inl rfl) (x_own1 T (c_as_tuple Y) (by decide) rfl (xa_cons (x_var (pv 2) rfl) xa_nil))) rfl)
  (ss_cons (s_if (t_isN (w_of (x_var (pv 4) rfl))) (ss_one (s_raise T (er_InvalidRow Y) (by decide) rfl (xa_cons (x_str (s := "deeds")) (xa_cons x_int xa_nil)))) ss_nil)
  (ss_cons (s_for T.po T.calm (i_enum rfl (Y.free 5) (x_var (pv 4) rfl)) (g_tup T.calm (gs_cons (g_nm (pg_name (i := 5) T.nd rfl (Or.inl rfl)) rfl) (gs_cons (g_nm (pg_name (i := 6) T.nd rfl (Or.inl rfl)) rfl) gs_nil))) (ss_one (s_if (t_not (t_tst (w_of (x_own1 T (c_is_deed Y) (by decide) rfl (xa_cons (x_var (pv 6) rfl) (xa_cons (x_bin y_add n_add (w_of (x_var (pv 1) rfl)) (w_of (x_var (pv 5) rfl))) xa_nil)))) (by intro _; rfl))) (ss_one (s_raise T (er_InvalidRow Y) (by decide) rfl (xa_cons (x_str (s := "deeds")) (xa_cons (x_var (pv 5) rfl) xa_nil)))) ss_nil)))
  (ss_cons (s_if (t_not (t_tst (w_of (x_own1 T (c_is_below Y) (by decide) rfl (xa_cons (x_var (pv 3) rfl) (xa_cons (x_bin y_add n_add (w_of (x_var (pv 1) rfl)) (w_of (x_b1 v_len n_len rfl (Y.free 1) hv_len (w_of (x_var (pv 4) rfl))))) xa_nil)))) (by intro _; rfl))) (ss_one (s_raise T (er_InvalidRow Y) (by decide) rfl (xa_cons (x_str (s := "out")) (xa_cons x_int xa_nil)))) ss_nil)
  (ss_cons (s_setF (att_ok (Y.more 1)) (ps_fld (pv 0) (x_var (pv 1) rfl) rfl) rfl)
  (ss_cons (s_setF (att_ok (Y.more 2)) (ps_fld (pv 0) (x_var (pv 4) rfl) rfl) rfl)
  (ss_one (s_setF (att_ok (Y.more 3)) (ps_fld (pv 0) (x_var (pv 3) rfl) rfl) rfl))))))))))
theorem S_is_number : FnScope N_is_number ["value"] sc_is_number := ⟨rfl, rfl, rfl, by decide +kernel, rfl, by decide +kernel, by decide +kernel⟩
theorem c_is_number (Y : Fs P w K mg) : CallOk P w K mg base 2 "is_number" d_is_number ["value"] 1 m_is_number :=
  def_ok (d := d_is_number) (N := N_is_number) (ps := ["value"]) (p := 1) (m := b_is_number) (k := 1) (ow := ow_is_number) (Y.def_ 8) (Y.glo 36) S_is_number rfl rfl (by decide) (fun _ _ _ _ _ _ us hl => match us, hl with | [_], _ => rfl) (fun cdv A outer s H E T => (ss_one (s_ret (x_and (x_own1 T (c_is_integer Y) (by decide) rfl (xa_cons (x_var (pv 0) rfl) xa_nil)) (x_one (x_cmp y_ge n_ge (w_of (x_var (pv 0) rfl)) (w_of x_int) rfl))))))
theorem S_is_word : FnScope N_is_word ["value", "width"] sc_is_word := ⟨rfl, rfl, rfl, by decide +kernel, rfl, by decide +kernel, by decide +kernel⟩
theorem c_is_word (Y : Fs P w K mg) : CallOk P w K mg base 3 "is_word" d_is_word ["value", "width"] 2 m_is_word :=
  def_ok (d := d_is_word) (N := N_is_word) (ps := ["value", "width"]) (p := 2) (m := b_is_word) (k := 2) (ow := ow_is_word) (Y.def_ 9) (Y.glo 37) S_is_word rfl rfl (by decide) (fun _ _ _ _ _ _ us hl => match us, hl with | [_, _], _ => rfl) (fun cdv A outer s H E T => (ss_one (s_ret (x_and (x_own1 T (c_is_number Y) (by decide) rfl (xa_cons (x_var (pv 0) rfl) xa_nil)) (x_one (x_cmp y_le n_le (w_of (x_bits (w_of (x_var (pv 0) rfl)))) (w_of (x_var (pv 1) rfl)) rfl))))))
theorem S_are_words : FnScope N_are_words ["value", "width", "least", "most"] sc_are_words := ⟨rfl, rfl, rfl, by decide +kernel, rfl, by decide +kernel, by decide +kernel⟩
theorem c_are_words (Y : Fs P w K mg) : CallOk P w K mg base 4 "are_words" d_are_words ["value", "width", "least", "most"] 4 m_are_words :=
  def_ok (d := d_are_words) (N := N_are_words) (ps := ["value", "width", "least", "most"]) (p := 4) (m := b_are_words) (k := 3) (ow := ow_are_words) (Y.def_ 10) (Y.glo 38) S_are_words rfl rfl (by decide) (fun _ _ _ _ _ _ us hl => match us, hl with | [_, _, _, _], _ => rfl) (fun cdv A outer s H E T => (ss_cons (s_set (ps_set (i := 4) T.nd rfl (Or.inl rfl) (x_own1 T (c_as_tuple Y) (by decide) rfl (xa_cons (x_var (pv 0) rfl) xa_nil))) rfl)
  (ss_cons (s_if (PW.pt (t_or (t_isN (w_of (x_var (pv 4) rfl))) (t_or1 (t_not (t_chain y_le y_le n_le n_le (Bl.chain b_le) (w_of (x_var (pv 2) rfl)) (w_of (x_b1 v_len n_len rfl (Y.free 1) hv_len (w_of (x_var (pv 4) rfl)))) (w_of (x_var (pv 3) rfl))))))) (ss_one (s_ret x_bl)) ss_nil)
  (ss_one (s_ret (x_b1 (v_all T.calm) n_all rfl (Y.free 10) hv_all (w_of (e_of (f_lc (own := [("word", 5)]) T (i_gr (i_seq (x_var (pv 4) rfl))) (blkOk_by (N := N_are_words) (sc := sc_are_words) (own := [("word", 5)]) (by decide +kernel)) (fun _ _ _ _ _ T1 => (g_nm (pg_name (i := 5) T1.nd rfl (Or.inl rfl)) rfl)) (fun _ _ _ _ _ T1 => ts_nil) (fun _ _ _ _ _ T1 => (x_own1 T1 (c_is_word Y) (by decide) rfl (xa_cons (x_var (pv 5) rfl) (xa_cons (x_var (pv 1) rfl) xa_nil)))) (by decide))))))))))
theorem S_counted_word : FnScope N_counted_word ["width", "modulus", "rest", "words"] sc_counted_word := ⟨rfl, rfl, rfl, by decide +kernel, rfl, by decide +kernel, by decide +kernel⟩
theorem c_counted_word (Y : Fs P w K mg) : CallOk P w K mg base 1 "counted_word" d_counted_word ["width", "modulus", "rest", "words"] 4 m_counted_word :=
  def_ok (d := d_counted_word) (N := N_counted_word) (ps := ["width", "modulus", "rest", "words"]) (p := 4) (m := b_counted_word) (k := 0) (ow := ow_counted_word) (Y.def_ 11) (Y.glo 39) S_counted_word rfl rfl (by decide) (fun _ _ _ _ _ _ us hl => match us, hl with | [_, _, _, _], _ => rfl) (fun cdv A outer s H E T => (ss_cons (s_set (ps_set (i := 4) T.nd rfl (Or.inl rfl) x_int) rfl)
  (ss_cons (s_set (ps_set (i := 5) T.nd rfl (Or.inl rfl) x_int) rfl)
  (ss_cons (s_for T.po T.calm (i_rng1 rfl (Y.free 0) (x_var (pv 0) rfl)) (g_nm (pg_name (i := 6) T.nd rfl (Or.inr rfl)) rfl) (ss_cons (s_if (t_cmp T.eq n_eq b_eq (w_of (x_var (pv 5) rfl)) (w_of (x_var (pv 2) rfl)) rfl) (ss_one (s_aug (ps_aug (i := 4) T.nd rfl (Or.inl rfl) (w_of (x_bin y_shl n_shl (w_of x_int) (w_of (x_var (pv 6) rfl)))) ip_or) rfl h_ior n_ior rfl)) ss_nil)
  (ss_one (s_set (ps_set (i := 5) T.nd rfl (Or.inl rfl) (x_bin y_mod n_mod (w_of (x_bin y_add n_add (w_of (x_var (pv 5) rfl)) (w_of (x_b1 (v_sum T.calm) n_sum rfl (Y.free 11) hv_sum (w_of (e_of (f_lc (own := [("part", 7)]) T (i_gr (i_seq (x_var (pv 3) rfl))) (blkOk_by (N := N_counted_word) (sc := sc_counted_word) (own := [("part", 7)]) (by decide +kernel)) (fun _ _ _ _ _ T1 => (g_nm (pg_name (i := 7) T1.nd rfl (Or.inl rfl)) rfl)) (fun _ _ _ _ _ T1 => ts_nil) (fun _ _ _ _ _ T1 => (x_bin y_and n_and (w_of (x_bin y_shr n_shr (w_of (x_var (pv 7) rfl)) (w_of (x_var (pv 6) rfl)))) (w_of x_int))) (by decide)))))))) (w_of (x_var (pv 1) rfl)))) rfl))))
  (ss_one (s_ret (x_var (pv 4) rfl)))))))
theorem S_deed_word : FnScope N_deed_word ["deed", "width", "words"] sc_deed_word := ⟨rfl, rfl, rfl, by decide +kernel, rfl, by decide +kernel, by decide +kernel⟩
theorem c_deed_word (Y : Fs P w K mg) : CallOk P w K mg base 2 "deed_word" d_deed_word ["deed", "width", "words"] 3 m_deed_word :=
  def_ok (d := d_deed_word) (N := N_deed_word) (ps := ["deed", "width", "words"]) (p := 3) (m := b_deed_word) (k := 1) (ow := ow_deed_word) (Y.def_ 12) (Y.glo 40) S_deed_word rfl rfl (by decide) (fun _ _ _ _ _ _ us hl => match us, hl with | [_, _, _], _ => rfl) (fun cdv A outer s H E T => (ss_cons (s_set (ps_set (i := 3) T.nd rfl (Or.inl rfl) (x_idx T.ix (w_of (x_var (pv 0) rfl)) (w_of x_int))) rfl)
  (ss_cons (s_set (ps_set (i := 4) T.nd rfl (Or.inl rfl) (x_bin y_sub n_sub (w_of (x_bin y_shl n_shl (w_of x_int) (w_of (x_var (pv 1) rfl)))) (w_of x_int))) rfl)
  (ss_cons (s_if (t_cmp T.eq n_eq b_eq (w_of (x_var (pv 3) rfl)) (w_of (x_str (s := "count"))) rfl) (ss_one (s_ret (x_own1 T (c_counted_word Y) (by decide) rfl (xa_cons (x_var (pv 1) rfl) (xa_cons (x_idx T.ix (w_of (x_var (pv 0) rfl)) (w_of x_int)) (xa_cons (x_idx T.ix (w_of (x_var (pv 0) rfl)) (w_of x_int)) (xa_cons (e_of (f_lc (own := [("i", 7)]) T (i_gr (i_seq (x_idx T.ix (w_of (x_var (pv 0) rfl)) (w_of x_int)))) (blkOk_by (N := N_deed_word) (sc := sc_deed_word) (own := [("i", 7)]) (by decide +kernel)) (fun _ _ _ _ _ T1 => (g_nm (pg_name (i := 7) T1.nd rfl (Or.inl rfl)) rfl)) (fun _ _ _ _ _ T1 => ts_nil) (fun _ _ _ _ _ T1 => (x_idx T1.ix (w_of (x_var (pv 2) rfl)) (w_of (x_var (pv 7) rfl)))) (by decide))) xa_nil))))))) ss_nil)
  (ss_cons (s_if (t_cmp T.inn n_in b_in (w_of (x_var (pv 3) rfl)) (w_of (x_tup (xa_cons (x_str (s := "zero")) (xa_cons (x_str (s := "ones")) xa_nil)))) rfl) (ss_one (s_ret (x_ifExp (t_cmp T.eq n_eq b_eq (w_of (x_var (pv 3) rfl)) (w_of (x_str (s := "ones"))) rfl) (x_var (pv 4) rfl) x_int))) ss_nil)
  (ss_cons (s_set (ps_set (i := 5) T.nd rfl (Or.inl rfl) (x_idx T.ix (w_of (x_var (pv 2) rfl)) (w_of (x_idx T.ix (w_of (x_var (pv 0) rfl)) (w_of x_int))))) rfl)
  (ss_cons (s_set (ps_set (i := 6) T.nd rfl (Or.inl rfl) (x_idx T.ix (w_of (x_var (pv 2) rfl)) (w_of (x_idx T.ix (w_of (x_var (pv 0) rfl)) (w_of (x_un y_neg n_neg (w_of x_int))))))) rfl)
  (ss_cons (s_if (t_cmp T.eq n_eq b_eq (w_of (x_var (pv 3) rfl)) (w_of (x_str (s := "not"))) rfl) (ss_one (s_ret (x_bin y_sub n_sub (w_of (x_var (pv 4) rfl)) (w_of (x_var (pv 5) rfl))))) ss_nil)
  (ss_cons (s_if (t_cmp T.eq n_eq b_eq (w_of (x_var (pv 3) rfl)) (w_of (x_str (s := "and"))) rfl) (ss_one (s_ret (x_bin y_and n_and (w_of (x_var (pv 5) rfl)) (w_of (x_var (pv 6) rfl))))) ss_nil)
  (ss_cons (s_if (t_cmp T.eq n_eq b_eq (w_of (x_var (pv 3) rfl)) (w_of (x_str (s := "or"))) rfl) (ss_one (s_ret (x_bin y_or n_or (w_of (x_var (pv 5) rfl)) (w_of (x_var (pv 6) rfl))))) ss_nil)
  (ss_cons (s_if (t_cmp T.eq n_eq b_eq (w_of (x_var (pv 3) rfl)) (w_of (x_str (s := "xor"))) rfl) (ss_one (s_ret (x_bin y_xor n_xor (w_of (x_var (pv 5) rfl)) (w_of (x_var (pv 6) rfl))))) ss_nil)
  (ss_cons (s_if (t_cmp T.eq n_eq b_eq (w_of (x_var (pv 3) rfl)) (w_of (x_str (s := "sub"))) rfl) (ss_one (s_ret (x_bin y_and n_and (w_of (x_bin y_sub n_sub (w_of (x_var (pv 5) rfl)) (w_of (x_var (pv 6) rfl)))) (w_of (x_var (pv 4) rfl))))) ss_nil)
  (ss_cons (s_if (t_cmp T.eq n_eq b_eq (w_of (x_var (pv 3) rfl)) (w_of (x_str (s := "minus"))) rfl) (ss_one (s_ret (x_bin y_and n_and (w_of (x_un y_neg n_neg (w_of (x_var (pv 5) rfl)))) (w_of (x_var (pv 4) rfl))))) ss_nil)
  (ss_one (s_ret (x_bin y_and n_and (w_of (x_bin y_add n_add (w_of (x_var (pv 5) rfl)) (w_of (x_var (pv 6) rfl)))) (w_of (x_var (pv 4) rfl))))))))))))))))))
theorem S_Row_all_words : FnScope N_Row_all_words ["self", "width", "words"] sc_Row_all_words := ⟨rfl, rfl, rfl, by decide +kernel, rfl, by decide +kernel, by decide +kernel⟩
theorem c_Row_all_words (Y : Fs P w K mg) : MethOk P w K mg base 5 "Row" "all_words" 3 m_Row_all_words :=
  meth_def (d := d_Row_all_words) (N := N_Row_all_words) (ps := ["self", "width", "words"]) (p := 3) (m := b_Row_all_words) (k := 4) (ow := ow_Row_all_words) (oN := owS []) (oB := owS []) (Y.def_ 13) (Y.cls 41) (Y.meth 42) S_Row_all_words rfl rfl (by decide) (fun _ _ _ _ _ _ us hl => match us, hl with | [_, _, _], _ => rfl) (fun cdv A outer s H E T => (c_cons (o1 := owS []) (c_if (t_not (t_tst (w_of (x_own1 T (c_is_number Y) (by decide) rfl (xa_cons (x_var (pv 1) rfl) xa_nil))) (by intro _; rfl))) (c_one (s_up (s_raise T (er_InvalidNumber Y) (by decide) rfl (xa_cons (x_var (pv 1) rfl) xa_nil)) (owS_le (by decide)) (by decide))) (c_cut (o1 := owS []) c_nil (owS_le (by decide)) (by decide)))
  (c_cons (o1 := owS []) (c_if (t_not (t_tst (w_of (x_own1 T (c_are_words Y) (by decide) rfl (xa_cons (x_var (pv 2) rfl) (xa_cons (x_var (pv 1) rfl) (xa_cons (x_attr (att_ok (Y.more 1)) (w_of (x_var (pv 0) rfl))) (xa_cons (x_attr (att_ok (Y.more 1)) (w_of (x_var (pv 0) rfl))) xa_nil)))))) (by intro _; rfl))) (c_one (s_up (s_raise T (er_InvalidWords Y) (by decide) rfl (xa_cons (x_var (pv 2) rfl) xa_nil)) (owS_le (by decide)) (by decide))) (c_cut (o1 := owS []) c_nil (owS_le (by decide)) (by decide)))
  (c_cons (o1 := owS [3]) (c_own (ps_set (i := 3) T.nd rfl (Or.inl rfl) (f_list rfl rfl (Y.free 2) (w_of (x_var (pv 2) rfl)))) rfl (owS_add (by decide)))
  (c_cons (o1 := owS [3]) (s_up (s_for T.po T.calm (i_seq (x_attr (att_ok (Y.more 2)) (w_of (x_var (pv 0) rfl)))) (g_nm (pg_name (i := 4) T.nd rfl (Or.inl rfl)) rfl) (c_one (s_up (s_app1 (i := 3) (pv 3) (x_ownI T (c_deed_word Y) (by decide) rfl (xw_cons (w_of (x_var (pv 4) rfl)) (xw_cons (w_of (x_var (pv 1) rfl)) (xw_cons (x_own (pv 3)) xa_nil)))) rfl) (owS_le (by decide)) (by decide)))) (owS_le (by decide)) (by decide))
  (c_cut (o1 := owS []) (c_one (s_up (s_ret (x_t1 v_tuple n_tuple rfl (Y.free 4) hv_tuple (w_of (x_var (pv 3) rfl)))) (owS_le (by decide)) (by decide))) (owS_le (by decide)) (by decide)))))))
theorem S_Row_write : FnScope N_Row_write ["self", "width", "words"] sc_Row_write := ⟨rfl, rfl, rfl, by decide +kernel, rfl, by decide +kernel, by decide +kernel⟩
theorem c_Row_write (Y : Fs P w K mg) : MethOk P w K mg base 6 "Row" "write" 3 m_Row_write :=
  meth_def (d := d_Row_write) (N := N_Row_write) (ps := ["self", "width", "words"]) (p := 3) (m := b_Row_write) (k := 5) (ow := ow_Row_write) (Y.def_ 14) (Y.cls 41) (Y.meth 43) S_Row_write rfl rfl (by decide) (fun _ _ _ _ _ _ us hl => match us, hl with | [_, _, _], _ => rfl) (fun cdv A outer s H E T => (ss_one (s_ret (x_idx T.ix (w_of (x_methS (mn := "all_words") rfl T (c_Row_all_words Y) (by decide) (x_var (pv 0) rfl) (xa_cons (x_var (pv 1) rfl) (xa_cons (x_var (pv 2) rfl) xa_nil)))) (w_of (x_attr (att_ok (Y.more 3)) (w_of (x_var (pv 0) rfl))))))))
theorem S__law_alike : FnScope N__law_alike ["actual", "due"] sc__law_alike := ⟨rfl, rfl, rfl, by decide +kernel, rfl, by decide +kernel, by decide +kernel⟩
theorem c_law_alike (Y : Fs P w K mg) : ∀ k : Nat, CallOk P w K mg base (1 + k) "_law_alike" d__law_alike ["actual", "due"] 2 (m_law_alike k)
  | 0 => def_ok (d := d__law_alike) (N := N__law_alike) (ps := ["actual", "due"]) (p := 2) (m := dead) (k := 0) (ow := ow__law_alike) (Y.def_ 15) (Y.glo 44) S__law_alike rfl rfl (by decide) (fun _ _ _ _ _ _ us hl => match us, hl with | [_, _], _ => rfl) (fun cdv A outer s H E T => ss_dead)
  | k + 1 => def_ok (d := d__law_alike) (N := N__law_alike) (ps := ["actual", "due"]) (p := 2) (k := 1 + k) (ow := ow__law_alike) (Y.def_ 15) (Y.glo 44) S__law_alike rfl rfl (by decide) (fun _ _ _ _ _ _ us hl => match us, hl with | [_, _], _ => rfl) (fun cdv A outer s H E T => (ss_cons (s_if (t_tst (w_of (x_isiT (cs := CS) (ts := [.lst, .tup]) rfl (kit_of_b (Y.more 0)) rfl (Y.free 3) (w_of (x_var (pv 1) rfl)) (TyL.cons (t := .lst) (pe_bltn rfl (Y.free 2) hv_list rfl) (TyL.cons (t := .tup) (pe_bltn rfl (Y.free 4) hv_tuple rfl) TyL.nil rfl) rfl) (by decide))) (by intro _; rfl)) (ss_cons (s_if (PW.pt (t_or (t_not (t_tst (w_of (x_isiT (cs := CS) (ts := [.lst, .tup]) rfl (kit_of_b (Y.more 0)) rfl (Y.free 3) (w_of (x_var (pv 0) rfl)) (TyL.cons (t := .lst) (pe_bltn rfl (Y.free 2) hv_list rfl) (TyL.cons (t := .tup) (pe_bltn rfl (Y.free 4) hv_tuple rfl) TyL.nil rfl) rfl) (by decide))) (by intro _; rfl))) (t_or1 (t_cmp T.ne n_ne b_ne (w_of (x_isi1 (cs := CS) (t := .lst) rfl (kit_of_b (Y.more 0)) rfl (Y.free 3) (w_of (x_var (pv 0) rfl)) (pe_bltn rfl (Y.free 2) hv_list rfl))) (w_of (x_isi1 (cs := CS) (t := .lst) rfl (kit_of_b (Y.more 0)) rfl (Y.free 3) (w_of (x_var (pv 1) rfl)) (pe_bltn rfl (Y.free 2) hv_list rfl))) rfl)))) (ss_one (s_ret x_bl)) ss_nil)
  (ss_cons (s_if (t_cmp T.ne n_ne b_ne (w_of (x_b1 v_len n_len rfl (Y.free 1) hv_len (w_of (x_var (pv 0) rfl)))) (w_of (x_b1 v_len n_len rfl (Y.free 1) hv_len (w_of (x_var (pv 1) rfl)))) rfl) (ss_one (s_ret x_bl)) ss_nil)
  (ss_cons (s_for T.po T.calm (i_rng1 rfl (Y.free 0) (x_b1 v_len n_len rfl (Y.free 1) hv_len (w_of (x_var (pv 1) rfl)))) (g_nm (pg_name (i := 2) T.nd rfl (Or.inl rfl)) rfl) (ss_one (s_if (t_not (t_tst (w_of (x_own1 T (c_law_alike Y k) (Nat.le_refl _) rfl (xa_cons (x_idx T.ix (w_of (x_var (pv 0) rfl)) (w_of (x_var (pv 2) rfl))) (xa_cons (x_idx T.ix (w_of (x_var (pv 1) rfl)) (w_of (x_var (pv 2) rfl))) xa_nil)))) (by intro _; rfl))) (ss_one (s_ret x_bl)) ss_nil)))
  (ss_one (s_ret x_bl))))) ss_nil)
  (ss_cons (s_if (t_isN (w_of (x_var (pv 1) rfl))) (ss_one (s_ret (x_isN (w_of (x_var (pv 0) rfl))))) ss_nil)
  (ss_cons (s_if (PW.pt (t_or (t_tst (w_of (x_isi1 (cs := CS) (t := .bl) rfl (kit_of_b (Y.more 0)) rfl (Y.free 3) (w_of (x_var (pv 1) rfl)) (pe_bltn rfl (Y.free 7) hv_bool rfl))) (by intro _; rfl)) (t_or1 (t_tst (w_of (x_isi1 (cs := CS) (t := .bl) rfl (kit_of_b (Y.more 0)) rfl (Y.free 3) (w_of (x_var (pv 0) rfl)) (pe_bltn rfl (Y.free 7) hv_bool rfl))) (by intro _; rfl))))) (ss_one (s_ret (x_and (x_isi1 (cs := CS) (t := .bl) rfl (kit_of_b (Y.more 0)) rfl (Y.free 3) (w_of (x_var (pv 1) rfl)) (pe_bltn rfl (Y.free 7) hv_bool rfl)) (x_and (x_isi1 (cs := CS) (t := .bl) rfl (kit_of_b (Y.more 0)) rfl (Y.free 3) (w_of (x_var (pv 0) rfl)) (pe_bltn rfl (Y.free 7) hv_bool rfl)) (x_one (x_cmp T.eq n_eq (w_of (x_var (pv 0) rfl)) (w_of (x_var (pv 1) rfl)) rfl)))))) ss_nil)
  (ss_cons (s_if (t_tst (w_of (x_isi1 (cs := CS) (t := .str) rfl (kit_of_b (Y.more 0)) rfl (Y.free 3) (w_of (x_var (pv 1) rfl)) (pe_bltn rfl (Y.free 8) hv_str rfl))) (by intro _; rfl)) (ss_one (s_ret (x_and (x_isi1 (cs := CS) (t := .str) rfl (kit_of_b (Y.more 0)) rfl (Y.free 3) (w_of (x_var (pv 0) rfl)) (pe_bltn rfl (Y.free 8) hv_str rfl)) (x_one (x_cmp T.eq n_eq (w_of (x_var (pv 0) rfl)) (w_of (x_var (pv 1) rfl)) rfl))))) ss_nil)
  (ss_one (s_ret (x_and (x_isi1 (cs := CS) (t := .int) rfl (kit_of_b (Y.more 0)) rfl (Y.free 3) (w_of (x_var (pv 0) rfl)) (pe_bltn rfl (Y.free 6) hv_int rfl)) (x_one (x_cmp T.eq n_eq (w_of (x_var (pv 0) rfl)) (w_of (x_var (pv 1) rfl)) rfl))))))))))
theorem S__law_in_range : FnScope N__law_in_range ["thing", "low", "high"] sc__law_in_range := ⟨rfl, rfl, rfl, by decide +kernel, rfl, by decide +kernel, by decide +kernel⟩
theorem c_law_in_range (Y : Fs P w K mg) : CallOk P w K mg base 1 "_law_in_range" d__law_in_range ["thing", "low", "high"] 3 m_law_in_range :=
  def_ok (d := d__law_in_range) (N := N__law_in_range) (ps := ["thing", "low", "high"]) (p := 3) (m := b__law_in_range) (k := 0) (ow := ow__law_in_range) (Y.def_ 16) (Y.glo 45) S__law_in_range rfl rfl (by decide) (fun _ _ _ _ _ _ us hl => match us, hl with | [_, _, _], _ => rfl) (fun cdv A outer s H E T => (ss_one (s_ret (x_and (x_isi1 (cs := CS) (t := .int) rfl (kit_of_b (Y.more 0)) rfl (Y.free 3) (w_of (x_var (pv 0) rfl)) (pe_bltn rfl (Y.free 6) hv_int rfl)) (x_and (x_not (x_isi1 (cs := CS) (t := .bl) rfl (kit_of_b (Y.more 0)) rfl (Y.free 3) (w_of (x_var (pv 0) rfl)) (pe_bltn rfl (Y.free 7) hv_bool rfl))) (x_one (x_chain y_le y_le n_le n_le (w_of (x_var (pv 1) rfl)) (w_of (x_var (pv 0) rfl)) (w_of (x_var (pv 2) rfl)))))))))
theorem S__law_refused : FnScope N__law_refused ["row", "which", "width", "chosen", "first"] sc__law_refused := ⟨rfl, rfl, rfl, by decide +kernel, rfl, by decide +kernel, by decide +kernel⟩
theorem c_law_refused (Y : Fs P w K mg) : CallOk P w K mg base 14 "_law_refused" d__law_refused ["row", "which", "width", "chosen", "first"] 5 m_law_refused :=
  def_ok (d := d__law_refused) (N := N__law_refused) (ps := ["row", "which", "width", "chosen", "first"]) (p := 5) (m := b__law_refused) (k := 13) (ow := ow__law_refused) (Y.def_ 17) (Y.glo 46) S__law_refused rfl rfl (by decide) (fun _ _ _ _ _ _ us hl => match us, hl with | [_, _, _, _, _], _ => rfl) (fun cdv A outer s H E T => (ss_cons (s_try (es := ES) (all := EALL) (fl := EFL) (i := 5) T (ers_ok (Y.more 5)) (Y.glo 26) rfl rfl rfl rfl rfl
  (fun _ _ _ T1 => (bs_one (b_if (t_cmp T1.eq n_eq b_eq (w_of (x_var (pv 1) rfl)) (w_of x_int) rfl) (bs_one (b_drop (ps_expr (x_methS (mn := "all_words") rfl T1 (c_Row_all_words Y) (by decide) (x_var (pv 0) rfl) (xa_cons (x_var (pv 2) rfl) (xa_cons (x_var (pv 3) rfl) xa_nil)))))) (bs_one (b_drop (ps_expr (x_methS (mn := "write") rfl T1 (c_Row_write Y) (by decide) (x_var (pv 0) rfl) (xa_cons (x_var (pv 2) rfl) (xa_cons (x_var (pv 3) rfl) xa_nil)))))))))
  (fun _ _ c_e _ fs_e _ hc_e hz_e hv_e T2 => (ss_cons (s_if (t_tst (w_of (x_xisT (es := ES) (all := EALL) (fl := EFL) (ers_ok (Y.more 5)) hc_e hz_e hv_e rfl rfl (Y.free 3) (pv 5) (XcL.cons (t := "InvalidMachine") (xc_glob (t := "InvalidMachine") (by decide) rfl (Y.glo 12)) (XcL.cons (t := "InvalidRow") (xc_glob (t := "InvalidRow") (by decide) rfl (Y.glo 13)) (XcL.cons (t := "InvalidMarks") (xc_glob (t := "InvalidMarks") (by decide) rfl (Y.glo 14)) (XcL.cons (t := "InvalidKind") (xc_glob (t := "InvalidKind") (by decide) rfl (Y.glo 15)) (XcL.cons (t := "InvalidPrimes") (xc_glob (t := "InvalidPrimes") (by decide) rfl (Y.glo 16)) (XcL.cons (t := "InvalidText") (xc_glob (t := "InvalidText") (by decide) rfl (Y.glo 17)) XcL.nil rfl) rfl) rfl) rfl) rfl) rfl) (by decide))) (by intro _; rfl)) (ss_one (s_ret x_bl)) ss_nil)
  (ss_cons (s_if (t_tst (w_of (x_xisT (es := ES) (all := EALL) (fl := EFL) (ers_ok (Y.more 5)) hc_e hz_e hv_e rfl rfl (Y.free 3) (pv 5) (XcL.cons (t := "InvalidCommand") (xc_glob (t := "InvalidCommand") (by decide) rfl (Y.glo 18)) (XcL.cons (t := "Undefined") (xc_glob (t := "Undefined") (by decide) rfl (Y.glo 19)) (XcL.cons (t := "NothingToDo") (xc_glob (t := "NothingToDo") (by decide) rfl (Y.glo 20)) (XcL.cons (t := "NothingKept") (xc_glob (t := "NothingKept") (by decide) rfl (Y.glo 21)) (XcL.cons (t := "InvalidReading") (xc_glob (t := "InvalidReading") (by decide) rfl (Y.glo 22)) XcL.nil rfl) rfl) rfl) rfl) rfl) (by decide))) (by intro _; rfl)) (ss_one (s_ret x_bl)) ss_nil)
  (ss_cons (s_if (PW.pt (t_or (t_cmp T2.ne n_ne b_ne (w_of (x_xis1 (t := "InvalidNumber") (es := ES) (all := EALL) (fl := EFL) (ers_ok (Y.more 5)) hc_e hz_e hv_e rfl rfl (Y.free 3) (pv 5) (xc_glob (t := "InvalidNumber") (by decide) rfl (Y.glo 23)))) (w_of (x_var (pv 4) rfl)) rfl) (t_or1 (t_cmp T2.eq n_eq b_eq (w_of (x_xis1 (t := "InvalidWords") (es := ES) (all := EALL) (fl := EFL) (ers_ok (Y.more 5)) hc_e hz_e hv_e rfl rfl (Y.free 3) (pv 5) (xc_glob (t := "InvalidWords") (by decide) rfl (Y.glo 24)))) (w_of (x_var (pv 4) rfl)) rfl)))) (ss_one (s_ret x_bl)) ss_nil)
  (ss_cons (s_if (t_not (t_tst (w_of (x_xis1 (t := "ValueError") (es := ES) (all := EALL) (fl := EFL) (ers_ok (Y.more 5)) hc_e hz_e hv_e rfl rfl (Y.free 3) (pv 5) (xc_ve rfl (Y.free 25)))) (by intro _; rfl))) (ss_one (s_ret x_bl)) ss_nil)
  (ss_cons (s_if (t_tst (w_of (x_var (pv 4) rfl)) (by intro _; rfl)) (ss_one (s_ret (x_own1H T2 (cH_law_alike Y 12) (by decide) rfl (xa_cons (x_xfld (es := ES) (all := EALL) (fl := EFL) (ers_ok (Y.more 5)) hc_e hz_e hv_e (pv 5)) (xa_cons (x_var (pv 2) rfl) xa_nil))))) ss_nil)
  (ss_one (s_ret (x_own1H T2 (cH_law_alike Y 12) (by decide) rfl (xa_cons (x_xfld (es := ES) (all := EALL) (fl := EFL) (ers_ok (Y.more 5)) hc_e hz_e hv_e (pv 5)) (xa_cons (x_var (pv 3) rfl) xa_nil))))))))))))
  (ss_one (s_ret x_bl))))
theorem S__law_calls_refused : FnScope N__law_calls_refused ["row", "width", "draws"] sc__law_calls_refused := ⟨rfl, rfl, rfl, by decide +kernel, rfl, by decide +kernel, by decide +kernel⟩
theorem c_law_calls_refused (Y : Fs P w K mg) : CallOk P w K mg base 15 "_law_calls_refused" d__law_calls_refused ["row", "width", "draws"] 3 m_law_calls_refused :=
  def_ok (d := d__law_calls_refused) (N := N__law_calls_refused) (ps := ["row", "width", "draws"]) (p := 3) (m := b__law_calls_refused) (k := 14) (ow := ow__law_calls_refused) (oN := owS []) (oB := owS []) (Y.def_ 18) (Y.glo 47) S__law_calls_refused rfl rfl (by decide) (fun _ _ _ _ _ _ us hl => match us, hl with | [_, _, _], _ => rfl) (fun cdv A outer s H E T => (c_cons (o1 := owS []) (s_up (s_set (ps_set (i := 3) T.nd rfl (Or.inl rfl) (x_attr (att_ok (Y.more 1)) (w_of (x_var (pv 0) rfl)))) rfl) (owS_le (by decide)) (by decide))
  (c_cons (o1 := owS []) (s_up (s_set (ps_set (i := 4) T.nd rfl (Or.inl rfl) (e_of (f_rep (f_lst (xa_cons x_int xa_nil)) (w_of (x_var (pv 3) rfl))))) rfl) (owS_le (by decide)) (by decide))
  (c_cons (o1 := owS []) (s_up (s_set (ps_set (i := 5) T.nd rfl (Or.inl rfl) (x_bin y_mod n_mod (w_of (x_idx T.ix (w_of (x_var (pv 2) rfl)) (w_of x_int))) (w_of (x_var (pv 3) rfl)))) rfl) (owS_le (by decide)) (by decide))
  (c_cons (o1 := owS [6]) (c_own (ps_set (i := 6) T.nd rfl (Or.inl rfl) (f_list rfl rfl (Y.free 2) (w_of (x_var (pv 4) rfl)))) rfl (owS_add (by decide)))
  (c_cons (o1 := owS [6]) (s_up (s_setL (i := 6) (ps_asg (x_idx T.ix (w_of (e_of (f_lst (xa_cons (x_un y_neg n_neg (w_of x_int)) (xa_cons (x_bin y_shl n_shl (w_of x_int) (w_of (x_var (pv 1) rfl))) (xa_cons (x_bin y_add n_add (w_of (x_bin y_shl n_shl (w_of x_int) (w_of (x_var (pv 1) rfl)))) (w_of (x_idx T.ix (w_of (x_var (pv 2) rfl)) (w_of x_int)))) (xa_cons x_bl (xa_cons x_bl (xa_cons x_non (xa_cons (x_str (s := "0")) (xa_cons (x_tup (xa_cons x_int xa_nil)) (xa_cons (e_of (f_lst (xa_cons x_int xa_nil))) (xa_cons (x_un y_neg n_neg (w_of x_int)) xa_nil))))))))))))) (w_of (x_idx T.ix (w_of (x_var (pv 2) rfl)) (w_of x_int)))) (pg_sub (pv 6) (x_var (pv 5) rfl) T.st)) rfl) (owS_le (by decide)) (by decide))
  (c_cut (o1 := owS []) (c_cons (o1 := owS []) (c_if (t_cmp T.eq n_eq b_eq (w_of (x_idx T.ix (w_of (x_var (pv 2) rfl)) (w_of x_int))) (w_of x_int) rfl) (c_one (s_up (s_set (ps_set (i := 6) T.nd rfl (Or.inl rfl) (x_idx T.ix (w_of (e_of (f_lst (xa_cons (x_bin y_add n_add (w_of (x_var (pv 4) rfl)) (w_of (e_of (f_lst (xa_cons x_int xa_nil))))) (xa_cons (x_t1 v_tuple n_tuple rfl (Y.free 4) hv_tuple (w_of (x_slc (w_of (x_var (pv 4) rfl)) (o_some x_int) o_none))) (xa_cons x_non (xa_cons x_int (xa_cons (x_str (s := "0")) (xa_cons (x_tup xa_nil) (xa_cons (e_of (f_rep (f_lst (xa_cons x_int xa_nil)) (w_of x_int))) (xa_cons (x_tup (xa_cons (x_var (pv 4) rfl) xa_nil)) (xa_cons x_bl (xa_cons (x_un y_neg n_neg (w_of x_int)) xa_nil))))))))))))) (w_of (x_idx T.ix (w_of (x_var (pv 2) rfl)) (w_of x_int))))) rfl) (owS_le (by decide)) (by decide))) (c_cut (o1 := owS []) c_nil (owS_le (by decide)) (by decide)))
  (c_cons (o1 := owS []) (s_up (s_set (ps_set (i := 7) T.nd rfl (Or.inl rfl) (x_idx T.ix (w_of (e_of (f_lst (xa_cons (x_un y_neg n_neg (w_of x_int)) (xa_cons x_bl (xa_cons x_bl (xa_cons x_non (xa_cons (x_str (s := "3")) (xa_cons (x_tup (xa_cons x_int xa_nil)) (xa_cons (e_of (f_lst (xa_cons x_int xa_nil))) (xa_cons (x_un y_neg n_neg (w_of (x_bin y_pow n_pow (w_of x_int) (w_of x_int)))) (xa_cons (x_str (s := "")) (xa_cons (x_tup xa_nil) xa_nil))))))))))))) (w_of (x_idx T.ix (w_of (x_var (pv 2) rfl)) (w_of x_int))))) rfl) (owS_le (by decide)) (by decide))
  (c_cons (o1 := owS []) (s_up (s_for T.po T.calm (i_rng1 rfl (Y.free 0) x_int) (g_nm (pg_name (i := 8) T.nd rfl (Or.inl rfl)) rfl) (c_cons (o1 := owS []) (c_if (t_not (t_tst (w_of (x_own1 T (c_law_refused Y) (by decide) rfl (xa_cons (x_var (pv 0) rfl) (xa_cons (x_var (pv 8) rfl) (xa_cons (x_var (pv 7) rfl) (xa_cons (x_t1 v_tuple n_tuple rfl (Y.free 4) hv_tuple (w_of (x_var (pv 4) rfl))) (xa_cons x_bl xa_nil))))))) (by intro _; rfl))) (c_one (s_up (s_ret x_bl) (owS_le (by decide)) (by decide))) (c_cut (o1 := owS []) c_nil (owS_le (by decide)) (by decide)))
  (c_cons (o1 := owS []) (c_if (t_not (t_tst (w_of (x_own1 T (c_law_refused Y) (by decide) rfl (xa_cons (x_var (pv 0) rfl) (xa_cons (x_var (pv 8) rfl) (xa_cons (x_var (pv 7) rfl) (xa_cons (x_var (pv 6) rfl) (xa_cons x_bl xa_nil))))))) (by intro _; rfl))) (c_one (s_up (s_ret x_bl) (owS_le (by decide)) (by decide))) (c_cut (o1 := owS []) c_nil (owS_le (by decide)) (by decide)))
  (c_one (c_if (t_not (t_tst (w_of (x_own1 T (c_law_refused Y) (by decide) rfl (xa_cons (x_var (pv 0) rfl) (xa_cons (x_var (pv 8) rfl) (xa_cons (x_var (pv 1) rfl) (xa_cons (x_var (pv 6) rfl) (xa_cons x_bl xa_nil))))))) (by intro _; rfl))) (c_one (s_up (s_ret x_bl) (owS_le (by decide)) (by decide))) (c_cut (o1 := owS []) c_nil (owS_le (by decide)) (by decide))))))) (owS_le (by decide)) (by decide))
  (c_cons (o1 := owS []) (c_if (t_not (t_tst (w_of (x_own1 T (c_law_in_range Y) (by decide) rfl (xa_cons (x_methS (mn := "write") rfl T (c_Row_write Y) (by decide) (x_var (pv 0) rfl) (xa_cons (x_var (pv 1) rfl) (xa_cons (x_t1 v_tuple n_tuple rfl (Y.free 4) hv_tuple (w_of (x_var (pv 4) rfl))) xa_nil))) (xa_cons x_int (xa_cons (x_bin y_sub n_sub (w_of (x_bin y_shl n_shl (w_of x_int) (w_of (x_var (pv 1) rfl)))) (w_of x_int)) xa_nil))))) (by intro _; rfl))) (c_one (s_up (s_ret x_bl) (owS_le (by decide)) (by decide))) (c_cut (o1 := owS []) c_nil (owS_le (by decide)) (by decide)))
  (c_one (s_up (s_ret (x_own1 T (c_law_alike Y 12) (by decide) rfl (xa_cons (x_slc (w_of (x_methS (mn := "all_words") rfl T (c_Row_all_words Y) (by decide) (x_var (pv 0) rfl) (xa_cons (x_var (pv 1) rfl) (xa_cons (x_var (pv 4) rfl) xa_nil)))) o_none (o_some (x_var (pv 3) rfl))) (xa_cons (x_t1 v_tuple n_tuple rfl (Y.free 4) hv_tuple (w_of (x_var (pv 4) rfl))) xa_nil)))) (owS_le (by decide)) (by decide))))))) (owS_le (by decide)) (by decide))))))))
theorem S__law_cell : FnScope N__law_cell ["script", "k"] sc__law_cell := ⟨rfl, rfl, rfl, by decide +kernel, rfl, by decide +kernel, by decide +kernel⟩
theorem c_law_cell (Y : Fs P w K mg) : CallOk P w K mg base 1 "_law_cell" d__law_cell ["script", "k"] 2 m_law_cell :=
  def_ok (d := d__law_cell) (N := N__law_cell) (ps := ["script", "k"]) (p := 2) (m := b__law_cell) (k := 0) (ow := ow__law_cell) (Y.def_ 19) (Y.glo 48) S__law_cell rfl rfl (by decide) (fun _ _ _ _ _ _ us hl => match us, hl with | [_, _], _ => rfl) (fun cdv A outer s H E T => (ss_cons (s_if (t_cmp y_lt n_lt b_lt (w_of (x_var (pv 1) rfl)) (w_of (x_b1 v_len n_len rfl (Y.free 1) hv_len (w_of (x_var (pv 0) rfl)))) rfl) (ss_one (s_ret (x_idx T.ix (w_of (x_var (pv 0) rfl)) (w_of (x_var (pv 1) rfl))))) ss_nil)
  (ss_cons (s_if (t_cmp y_gt n_gt b_gt (w_of (x_b1 v_len n_len rfl (Y.free 1) hv_len (w_of (x_var (pv 0) rfl)))) (w_of x_int) rfl) (ss_one (s_ret (x_bin y_add n_add (w_of (x_bin y_mod n_mod (w_of (x_t1 v_int n_int rfl (Y.free 6) hv_int (w_of (x_idx T.ix (w_of (x_var (pv 0) rfl)) (w_of (x_bin y_mod n_mod (w_of (x_var (pv 1) rfl)) (w_of (x_b1 v_len n_len rfl (Y.free 1) hv_len (w_of (x_var (pv 0) rfl)))))))))) (w_of x_int))) (w_of (x_bin y_mul n_mul (w_of x_int) (w_of (x_var (pv 1) rfl))))))) ss_nil)
  (ss_one (s_ret (x_bin y_add n_add (w_of (x_bin y_mul n_mul (w_of x_int) (w_of (x_var (pv 1) rfl)))) (w_of x_int)))))))
theorem S__law_deed : FnScope N__law_deed ["draws", "ready"] sc__law_deed := ⟨rfl, rfl, rfl, by decide +kernel, rfl, by decide +kernel, by decide +kernel⟩
theorem c_law_deed (Y : Fs P w K mg) : CallOk P w K mg base 1 "_law_deed" d__law_deed ["draws", "ready"] 2 m_law_deed :=
  def_ok (d := d__law_deed) (N := N__law_deed) (ps := ["draws", "ready"]) (p := 2) (m := b__law_deed) (k := 0) (ow := ow__law_deed) (Y.def_ 20) (Y.glo 49) S__law_deed rfl rfl (by decide) (fun _ _ _ _ _ _ us hl => match us, hl with | [_, _], _ => rfl) (fun cdv A outer s H E T => (ss_cons (s_set (ps_set (i := 2) T.nd rfl (Or.inl rfl) (e_of (f_lst (xa_cons (x_str (s := "zero")) (xa_cons (x_str (s := "ones")) (xa_cons (x_str (s := "not")) (xa_cons (x_str (s := "and")) (xa_cons (x_str (s := "or")) (xa_cons (x_str (s := "xor")) (xa_cons (x_str (s := "shift")) (xa_cons (x_str (s := "minus")) (xa_cons (x_str (s := "add")) (xa_cons (x_str (s := "sub")) xa_nil))))))))))))) rfl)
  (ss_cons (s_set (ps_set (i := 3) T.nd rfl (Or.inl rfl) (x_bin y_mod n_mod (w_of (x_idx T.ix (w_of (x_var (pv 0) rfl)) (w_of x_int))) (w_of (x_var (pv 1) rfl)))) rfl)
  (ss_cons (s_set (ps_set (i := 4) T.nd rfl (Or.inl rfl) (x_bin y_mod n_mod (w_of (x_idx T.ix (w_of (x_var (pv 0) rfl)) (w_of x_int))) (w_of (x_var (pv 1) rfl)))) rfl)
  (ss_cons (s_if (t_cmp y_ge n_ge b_ge (w_of (x_idx T.ix (w_of (x_var (pv 0) rfl)) (w_of x_int))) (w_of x_int) rfl) (ss_cons (s_set (ps_set (i := 5) T.nd rfl (Or.inl rfl) (x_idx T.ix (w_of (e_of (f_lst (xa_cons x_int (xa_cons x_int (xa_cons x_int xa_nil)))))) (w_of (x_idx T.ix (w_of (x_var (pv 0) rfl)) (w_of x_int))))) rfl)
  (ss_cons (s_set (ps_set (i := 6) T.nd rfl (Or.inl rfl) (x_tup (xa_cons (x_var (pv 3) rfl) (xa_cons (x_var (pv 4) rfl) (xa_cons (x_var (pv 3) rfl) (xa_cons (x_bin y_mod n_mod (w_of (x_idx T.ix (w_of (x_var (pv 0) rfl)) (w_of x_int))) (w_of (x_var (pv 1) rfl))) xa_nil)))))) rfl)
  (ss_one (s_ret (x_tup (xa_cons (x_str (s := "count")) (xa_cons (x_var (pv 5) rfl) (xa_cons (x_bin y_mod n_mod (w_of (x_idx T.ix (w_of (x_var (pv 0) rfl)) (w_of x_int))) (w_of (x_var (pv 5) rfl))) (xa_cons (x_slc (w_of (x_var (pv 6) rfl)) o_none (o_some (x_bin y_add n_add (w_of x_int) (w_of (x_idx T.ix (w_of (x_var (pv 0) rfl)) (w_of x_int)))))) xa_nil))))))))) ss_nil)
  (ss_cons (s_if (t_cmp y_lt n_lt b_lt (w_of (x_idx T.ix (w_of (x_var (pv 0) rfl)) (w_of x_int))) (w_of x_int) rfl) (ss_one (s_ret (x_tup (xa_cons (x_idx T.ix (w_of (x_var (pv 2) rfl)) (w_of (x_idx T.ix (w_of (x_var (pv 0) rfl)) (w_of x_int)))) xa_nil)))) ss_nil)
  (ss_cons (s_if (t_cmp T.inn n_in b_in (w_of (x_idx T.ix (w_of (x_var (pv 0) rfl)) (w_of x_int))) (w_of (e_of (f_lst (xa_cons x_int (xa_cons x_int (xa_cons x_int xa_nil)))))) rfl) (ss_one (s_ret (x_tup (xa_cons (x_idx T.ix (w_of (x_var (pv 2) rfl)) (w_of (x_idx T.ix (w_of (x_var (pv 0) rfl)) (w_of x_int)))) (xa_cons (x_var (pv 3) rfl) xa_nil))))) ss_nil)
  (ss_one (s_ret (x_tup (xa_cons (x_idx T.ix (w_of (x_var (pv 2) rfl)) (w_of (x_idx T.ix (w_of (x_var (pv 0) rfl)) (w_of x_int)))) (xa_cons (x_var (pv 3) rfl) (xa_cons (x_var (pv 4) rfl) xa_nil)))))))))))))
theorem S__law_mixed : FnScope N__law_mixed ["cell", "k"] sc__law_mixed := ⟨rfl, rfl, rfl, by decide +kernel, rfl, by decide +kernel, by decide +kernel⟩
theorem c_law_mixed (Y : Fs P w K mg) : CallOk P w K mg base 1 "_law_mixed" d__law_mixed ["cell", "k"] 2 m_law_mixed :=
  def_ok (d := d__law_mixed) (N := N__law_mixed) (ps := ["cell", "k"]) (p := 2) (m := b__law_mixed) (k := 0) (ow := ow__law_mixed) (Y.def_ 21) (Y.glo 50) S__law_mixed rfl rfl (by decide) (fun _ _ _ _ _ _ us hl => match us, hl with | [_, _], _ => rfl) (fun cdv A outer s H E T => (ss_cons (s_set (ps_set (i := 2) T.nd rfl (Or.inl rfl) (x_bin y_mod n_mod (w_of (x_t1 v_int n_int rfl (Y.free 6) hv_int (w_of (x_bin y_add n_add (w_of (x_bin y_add n_add (w_of (x_bin y_mul n_mul (w_of (x_var (pv 0) rfl)) (w_of x_int))) (w_of (x_bin y_mul n_mul (w_of (x_var (pv 1) rfl)) (w_of x_int))))) (w_of x_int))))) (w_of x_int))) rfl)
  (ss_cons (s_set (ps_set (i := 3) T.nd rfl (Or.inl rfl) (x_bin y_mod n_mod (w_of (x_t1 v_int n_int rfl (Y.free 6) hv_int (w_of (x_bin y_add n_add (w_of (x_bin y_mul n_mul (w_of (x_var (pv 2) rfl)) (w_of (x_var (pv 2) rfl)))) (w_of x_int))))) (w_of x_int))) rfl)
  (ss_one (s_ret (x_bin y_fdiv n_fdiv (w_of (x_bin y_mod n_mod (w_of (x_t1 v_int n_int rfl (Y.free 6) hv_int (w_of (x_bin y_mul n_mul (w_of (x_var (pv 3) rfl)) (w_of (x_bin y_add n_add (w_of (x_bin y_mod n_mod (w_of (x_var (pv 3) rfl)) (w_of x_int))) (w_of x_int))))))) (w_of x_int))) (w_of x_int)))))))
theorem S__law_draws : FnScope N__law_draws ["cell", "sizes"] sc__law_draws := ⟨rfl, rfl, rfl, by decide +kernel, rfl, by decide +kernel, by decide +kernel⟩
theorem c_law_draws (Y : Fs P w K mg) : CallOk P w K mg base 2 "_law_draws" d__law_draws ["cell", "sizes"] 2 m_law_draws :=
  def_ok (d := d__law_draws) (N := N__law_draws) (ps := ["cell", "sizes"]) (p := 2) (m := b__law_draws) (k := 1) (ow := ow__law_draws) (oN := owS []) (oB := owS []) (Y.def_ 22) (Y.glo 51) S__law_draws rfl rfl (by decide) (fun _ _ _ _ _ _ us hl => match us, hl with | [_, _], _ => rfl) (fun cdv A outer s H E T => (c_cons (o1 := owS [2]) (c_own (ps_set (i := 2) T.nd rfl (Or.inl rfl) (f_lst xa_nil)) rfl (owS_add (by decide)))
  (c_cons (o1 := owS [2]) (s_up (s_set (ps_set (i := 3) T.nd rfl (Or.inl rfl) (x_var (pv 0) rfl)) rfl) (owS_le (by decide)) (by decide))
  (c_cons (o1 := owS [2]) (s_up (s_for T.po T.calm (i_rng1 rfl (Y.free 0) (x_b1 v_len n_len rfl (Y.free 1) hv_len (w_of (x_var (pv 1) rfl)))) (g_nm (pg_name (i := 4) T.nd rfl (Or.inl rfl)) rfl) (c_one (c_if (PW.pt (t_and (t_cmp y_ge n_ge b_ge (w_of (x_var (pv 0) rfl)) (w_of (x_bin y_pow n_pow (w_of x_int) (w_of x_int))) rfl) (t_and (t_cmp y_lt n_lt b_lt (w_of (x_var (pv 4) rfl)) (w_of x_int) rfl) (t_and1 (t_cmp y_gt n_gt b_gt (w_of (x_var (pv 3) rfl)) (w_of x_int) rfl))))) (c_cons (o1 := owS [2]) (s_up (s_app1 (i := 2) (pv 2) (x_bin y_mod n_mod (w_of (x_t1 v_int n_int rfl (Y.free 6) hv_int (w_of (x_var (pv 3) rfl)))) (w_of (x_idx T.ix (w_of (x_var (pv 1) rfl)) (w_of (x_var (pv 4) rfl))))) rfl) (owS_le (by decide)) (by decide))
  (c_one (s_up (s_set (ps_set (i := 3) T.nd rfl (Or.inl rfl) (x_bin y_fdiv n_fdiv (w_of (x_var (pv 3) rfl)) (w_of (x_idx T.ix (w_of (x_var (pv 1) rfl)) (w_of (x_var (pv 4) rfl)))))) rfl) (owS_le (by decide)) (by decide)))) (c_one (s_up (s_app1 (i := 2) (pv 2) (x_bin y_mod n_mod (w_of (x_own1 T (c_law_mixed Y) (by decide) rfl (xa_cons (x_var (pv 0) rfl) (xa_cons (x_var (pv 4) rfl) xa_nil)))) (w_of (x_idx T.ix (w_of (x_var (pv 1) rfl)) (w_of (x_var (pv 4) rfl))))) rfl) (owS_le (by decide)) (by decide)))))) (owS_le (by decide)) (by decide))
  (c_cut (o1 := owS []) (c_one (s_up (s_ret (x_var (pv 2) rfl)) (owS_le (by decide)) (by decide))) (owS_le (by decide)) (by decide))))))
theorem S__law_all_in_range : FnScope N__law_all_in_range ["members", "low", "high"] sc__law_all_in_range := ⟨rfl, rfl, rfl, by decide +kernel, rfl, by decide +kernel, by decide +kernel⟩
theorem c_law_all_in_range (Y : Fs P w K mg) : CallOk P w K mg base 2 "_law_all_in_range" d__law_all_in_range ["members", "low", "high"] 3 m_law_all_in_range :=
  def_ok (d := d__law_all_in_range) (N := N__law_all_in_range) (ps := ["members", "low", "high"]) (p := 3) (m := b__law_all_in_range) (k := 1) (ow := ow__law_all_in_range) (Y.def_ 23) (Y.glo 52) S__law_all_in_range rfl rfl (by decide) (fun _ _ _ _ _ _ us hl => match us, hl with | [_, _, _], _ => rfl) (fun cdv A outer s H E T => (ss_cons (s_for T.po T.calm (i_seq (x_var (pv 0) rfl)) (g_nm (pg_name (i := 3) T.nd rfl (Or.inl rfl)) rfl) (ss_one (s_if (t_not (t_tst (w_of (x_own1 T (c_law_in_range Y) (by decide) rfl (xa_cons (x_var (pv 3) rfl) (xa_cons (x_var (pv 1) rfl) (xa_cons (x_var (pv 2) rfl) xa_nil))))) (by intro _; rfl))) (ss_one (s_ret x_bl)) ss_nil)))
  (ss_one (s_ret x_bl))))
theorem S__law_is_deed : FnScope N__law_is_deed ["deed", "ready"] sc__law_is_deed := ⟨rfl, rfl, rfl, by decide +kernel, rfl, by decide +kernel, by decide +kernel⟩
theorem c_law_is_deed (Y : Fs P w K mg) : CallOk P w K mg base 3 "_law_is_deed" d__law_is_deed ["deed", "ready"] 2 m_law_is_deed :=
  def_ok (d := d__law_is_deed) (N := N__law_is_deed) (ps := ["deed", "ready"]) (p := 2) (m := b__law_is_deed) (k := 2) (ow := ow__law_is_deed) (Y.def_ 24) (Y.glo 53) S__law_is_deed rfl rfl (by decide) (fun _ _ _ _ _ _ us hl => match us, hl with | [_, _], _ => rfl) (fun cdv A outer s H E T => (ss_cons (s_if (PW.pt (t_or (t_not (t_tst (w_of (x_isi1 (cs := CS) (t := .tup) rfl (kit_of_b (Y.more 0)) rfl (Y.free 3) (w_of (x_var (pv 0) rfl)) (pe_bltn rfl (Y.free 4) hv_tuple rfl))) (by intro _; rfl))) (t_or (t_cmp T.eq n_eq b_eq (w_of (x_b1 v_len n_len rfl (Y.free 1) hv_len (w_of (x_var (pv 0) rfl)))) (w_of x_int) rfl) (t_or1 (t_not (t_tst (w_of (x_isi1 (cs := CS) (t := .str) rfl (kit_of_b (Y.more 0)) rfl (Y.free 3) (w_of (x_idx T.ix (w_of (x_var (pv 0) rfl)) (w_of x_int))) (pe_bltn rfl (Y.free 8) hv_str rfl))) (by intro _; rfl))))))) (ss_one (s_ret x_bl)) ss_nil)
  (ss_cons (s_if (t_cmp T.eq n_eq b_eq (w_of (x_idx T.ix (w_of (x_var (pv 0) rfl)) (w_of x_int))) (w_of (x_str (s := "count"))) rfl) (ss_cons (s_if (PW.pt (t_or (t_cmp T.ne n_ne b_ne (w_of (x_b1 v_len n_len rfl (Y.free 1) hv_len (w_of (x_var (pv 0) rfl)))) (w_of x_int) rfl) (t_or (t_not (t_tst (w_of (x_own1 T (c_law_in_range Y) (by decide) rfl (xa_cons (x_idx T.ix (w_of (x_var (pv 0) rfl)) (w_of x_int)) (xa_cons x_int (xa_cons x_int xa_nil))))) (by intro _; rfl))) (t_or1 (t_cmp T.eq n_eq b_eq (w_of (x_idx T.ix (w_of (x_var (pv 0) rfl)) (w_of x_int))) (w_of x_int) rfl))))) (ss_one (s_ret x_bl)) ss_nil)
  (ss_cons (s_if (PW.pt (t_or (t_not (t_tst (w_of (x_own1 T (c_law_in_range Y) (by decide) rfl (xa_cons (x_idx T.ix (w_of (x_var (pv 0) rfl)) (w_of x_int)) (xa_cons x_int (xa_cons (x_bin y_sub n_sub (w_of (x_idx T.ix (w_of (x_var (pv 0) rfl)) (w_of x_int))) (w_of x_int)) xa_nil))))) (by intro _; rfl))) (t_or1 (t_not (t_tst (w_of (x_isi1 (cs := CS) (t := .tup) rfl (kit_of_b (Y.more 0)) rfl (Y.free 3) (w_of (x_idx T.ix (w_of (x_var (pv 0) rfl)) (w_of x_int))) (pe_bltn rfl (Y.free 4) hv_tuple rfl))) (by intro _; rfl)))))) (ss_one (s_ret x_bl)) ss_nil)
  (ss_one (s_ret (x_and (x_chain y_le y_le n_le n_le (w_of x_int) (w_of (x_b1 v_len n_len rfl (Y.free 1) hv_len (w_of (x_idx T.ix (w_of (x_var (pv 0) rfl)) (w_of x_int))))) (w_of x_int)) (x_one (x_own1 T (c_law_all_in_range Y) (by decide) rfl (xa_cons (x_idx T.ix (w_of (x_var (pv 0) rfl)) (w_of x_int)) (xa_cons x_int (xa_cons (x_bin y_sub n_sub (w_of (x_var (pv 1) rfl)) (w_of x_int)) xa_nil)))))))))) ss_nil)
  (ss_cons (s_if (t_cmp T.inn n_in b_in (w_of (x_idx T.ix (w_of (x_var (pv 0) rfl)) (w_of x_int))) (w_of (e_of (f_lst (xa_cons (x_str (s := "zero")) (xa_cons (x_str (s := "ones")) xa_nil))))) rfl) (ss_one (s_ret (x_cmp T.eq n_eq (w_of (x_b1 v_len n_len rfl (Y.free 1) hv_len (w_of (x_var (pv 0) rfl)))) (w_of x_int) rfl))) ss_nil)
  (ss_cons (s_if (t_cmp T.inn n_in b_in (w_of (x_idx T.ix (w_of (x_var (pv 0) rfl)) (w_of x_int))) (w_of (e_of (f_lst (xa_cons (x_str (s := "not")) (xa_cons (x_str (s := "shift")) (xa_cons (x_str (s := "minus")) xa_nil)))))) rfl) (ss_one (s_ret (x_and (x_cmp T.eq n_eq (w_of (x_b1 v_len n_len rfl (Y.free 1) hv_len (w_of (x_var (pv 0) rfl)))) (w_of x_int) rfl) (x_one (x_own1 T (c_law_all_in_range Y) (by decide) rfl (xa_cons (x_slc (w_of (x_var (pv 0) rfl)) (o_some x_int) o_none) (xa_cons x_int (xa_cons (x_bin y_sub n_sub (w_of (x_var (pv 1) rfl)) (w_of x_int)) xa_nil)))))))) ss_nil)
  (ss_cons (s_if (t_cmp T.inn n_in b_in (w_of (x_idx T.ix (w_of (x_var (pv 0) rfl)) (w_of x_int))) (w_of (e_of (f_lst (xa_cons (x_str (s := "and")) (xa_cons (x_str (s := "or")) (xa_cons (x_str (s := "xor")) (xa_cons (x_str (s := "add")) (xa_cons (x_str (s := "sub")) xa_nil)))))))) rfl) (ss_one (s_ret (x_and (x_cmp T.eq n_eq (w_of (x_b1 v_len n_len rfl (Y.free 1) hv_len (w_of (x_var (pv 0) rfl)))) (w_of x_int) rfl) (x_one (x_own1 T (c_law_all_in_range Y) (by decide) rfl (xa_cons (x_slc (w_of (x_var (pv 0) rfl)) (o_some x_int) o_none) (xa_cons x_int (xa_cons (x_bin y_sub n_sub (w_of (x_var (pv 1) rfl)) (w_of x_int)) xa_nil)))))))) ss_nil)
  (ss_one (s_ret x_bl))))))))
theorem S__law_fault : FnScope N__law_fault ["inputs", "deeds", "out"] sc__law_fault := ⟨rfl, rfl, rfl, by decide +kernel, rfl, by decide +kernel, by decide +kernel⟩
theorem c_law_fault (Y : Fs P w K mg) : CallOk P w K mg base 4 "_law_fault" d__law_fault ["inputs", "deeds", "out"] 3 m_law_fault :=
  def_ok (d := d__law_fault) (N := N__law_fault) (ps := ["inputs", "deeds", "out"]) (p := 3) (m := b__law_fault) (k := 3) (ow := ow__law_fault) (Y.def_ 26) (Y.glo 55) S__law_fault rfl rfl (by decide) (fun _ _ _ _ _ _ us hl => match us, hl with | [_, _, _], _ => rfl) (fun cdv A outer s H E T => (ss_cons (s_if (t_not (t_tst (w_of (x_own1 T (c_law_in_range Y) (by decide) rfl (xa_cons (x_var (pv 0) rfl) (xa_cons x_int (xa_cons x_int xa_nil))))) (by intro _; rfl))) (ss_one (s_ret (x_tup (xa_cons (x_str (s := "inputs")) (xa_cons x_int xa_nil))))) ss_nil)
  (ss_cons (s_if (t_not (t_tst (w_of (x_isiT (cs := CS) (ts := [.lst, .tup]) rfl (kit_of_b (Y.more 0)) rfl (Y.free 3) (w_of (x_var (pv 1) rfl)) (TyL.cons (t := .lst) (pe_bltn rfl (Y.free 2) hv_list rfl) (TyL.cons (t := .tup) (pe_bltn rfl (Y.free 4) hv_tuple rfl) TyL.nil rfl) rfl) (by decide))) (by intro _; rfl))) (ss_one (s_ret (x_tup (xa_cons (x_str (s := "deeds")) (xa_cons x_int xa_nil))))) ss_nil)
  (ss_cons (s_for T.po T.calm (i_rng1 rfl (Y.free 0) (x_b1 v_len n_len rfl (Y.free 1) hv_len (w_of (x_var (pv 1) rfl)))) (g_nm (pg_name (i := 3) T.nd rfl (Or.inl rfl)) rfl) (ss_one (s_if (t_not (t_tst (w_of (x_own1 T (c_law_is_deed Y) (by decide) rfl (xa_cons (x_idx T.ix (w_of (x_var (pv 1) rfl)) (w_of (x_var (pv 3) rfl))) (xa_cons (x_bin y_add n_add (w_of (x_var (pv 0) rfl)) (w_of (x_var (pv 3) rfl))) xa_nil)))) (by intro _; rfl))) (ss_one (s_ret (x_tup (xa_cons (x_str (s := "deeds")) (xa_cons (x_var (pv 3) rfl) xa_nil))))) ss_nil)))
  (ss_cons (s_if (t_not (t_tst (w_of (x_own1 T (c_law_in_range Y) (by decide) rfl (xa_cons (x_var (pv 2) rfl) (xa_cons x_int (xa_cons (x_bin y_sub n_sub (w_of (x_bin y_add n_add (w_of (x_var (pv 0) rfl)) (w_of (x_b1 v_len n_len rfl (Y.free 1) hv_len (w_of (x_var (pv 1) rfl)))))) (w_of x_int)) xa_nil))))) (by intro _; rfl))) (ss_one (s_ret (x_tup (xa_cons (x_str (s := "out")) (xa_cons x_int xa_nil))))) ss_nil)
  (ss_one (s_ret x_non)))))))
theorem S__law_made_rightly : FnScope N__law_made_rightly ["inputs", "deeds", "out"] sc__law_made_rightly := ⟨rfl, rfl, rfl, by decide +kernel, rfl, by decide +kernel, by decide +kernel⟩
theorem c_law_made_rightly (Y : Fs P w K mg) : CallOk P w K mg base 15 "_law_made_rightly" d__law_made_rightly ["inputs", "deeds", "out"] 3 m_law_made_rightly :=
  def_ok (d := d__law_made_rightly) (N := N__law_made_rightly) (ps := ["inputs", "deeds", "out"]) (p := 3) (m := b__law_made_rightly) (k := 14) (ow := ow__law_made_rightly) (Y.def_ 27) (Y.glo 56) S__law_made_rightly rfl rfl (by decide) (fun _ _ _ _ _ _ us hl => match us, hl with | [_, _, _], _ => rfl) (fun cdv A outer s H E T => (ss_cons (s_set (ps_set (i := 3) T.nd rfl (Or.inl rfl) (x_own1 T (c_law_fault Y) (by decide) rfl (xa_cons (x_var (pv 0) rfl) (xa_cons (x_var (pv 1) rfl) (xa_cons (x_var (pv 2) rfl) xa_nil))))) rfl)
  (ss_cons (s_set (ps_set (i := 4) T.nd rfl (Or.inl rfl) (x_tup xa_nil)) rfl)
  (ss_cons (s_if (t_tst (w_of (x_isiT (cs := CS) (ts := [.lst, .tup]) rfl (kit_of_b (Y.more 0)) rfl (Y.free 3) (w_of (x_var (pv 1) rfl)) (TyL.cons (t := .lst) (pe_bltn rfl (Y.free 2) hv_list rfl) (TyL.cons (t := .tup) (pe_bltn rfl (Y.free 4) hv_tuple rfl) TyL.nil rfl) rfl) (by decide))) (by intro _; rfl)) (ss_one (s_set (ps_set (i := 4) T.nd rfl (Or.inl rfl) (x_t1 v_tuple n_tuple rfl (Y.free 4) hv_tuple (w_of (x_var (pv 1) rfl)))) rfl)) ss_nil)
  (ss_cons (s_try (es := ES) (all := EALL) (fl := EFL) (i := 6) T (ers_ok (Y.more 5)) (Y.glo 26) rfl rfl rfl rfl rfl
  (fun _ _ _ T1 => (bs_one (b_set (ps_set (i := 5) T1.nd rfl (Or.inl rfl) (x_new (cls := "Row") T1 (c_Row Y) (by decide) rfl (xa_cons (x_var (pv 0) rfl) (xa_cons (x_var (pv 1) rfl) (xa_cons (x_var (pv 2) rfl) xa_nil))))) rfl)))
  (fun _ _ c_e _ fs_e _ hc_e hz_e hv_e T2 => (ss_cons (s_if (PW.pt (t_and (t_tst (w_of (x_isi1 (cs := CS) (t := .lst) rfl (kit_of_b (Y.more 0)) rfl (Y.free 3) (w_of (x_var (pv 1) rfl)) (pe_bltn rfl (Y.free 2) hv_list rfl))) (by intro _; rfl)) (t_and1 (t_not (t_tst (w_of (x_own1H T2 (cH_law_alike_members Y) (by decide) rfl (xa_cons (x_var (pv 1) rfl) (xa_cons (x_var (pv 4) rfl) xa_nil)))) (by intro _; rfl)))))) (ss_one (s_ret x_bl)) ss_nil)
  (ss_cons (s_if (PW.pt (t_or (t_isN (w_of (x_var (pv 3) rfl))) (t_or (t_not (t_tst (w_of (x_xis1 (t := "InvalidRow") (es := ES) (all := EALL) (fl := EFL) (ers_ok (Y.more 5)) hc_e hz_e hv_e rfl rfl (Y.free 3) (pv 6) (xc_glob (t := "InvalidRow") (by decide) rfl (Y.glo 13)))) (by intro _; rfl))) (t_or1 (t_not (t_tst (w_of (x_xis1 (t := "ValueError") (es := ES) (all := EALL) (fl := EFL) (ers_ok (Y.more 5)) hc_e hz_e hv_e rfl rfl (Y.free 3) (pv 6) (xc_ve rfl (Y.free 25)))) (by intro _; rfl))))))) (ss_one (s_ret x_bl)) ss_nil)
  (ss_cons (s_if (t_tst (w_of (x_xisT (es := ES) (all := EALL) (fl := EFL) (ers_ok (Y.more 5)) hc_e hz_e hv_e rfl rfl (Y.free 3) (pv 6) (XcL.cons (t := "InvalidNumber") (xc_glob (t := "InvalidNumber") (by decide) rfl (Y.glo 23)) (XcL.cons (t := "InvalidWords") (xc_glob (t := "InvalidWords") (by decide) rfl (Y.glo 24)) (XcL.cons (t := "InvalidReading") (xc_glob (t := "InvalidReading") (by decide) rfl (Y.glo 22)) (XcL.cons (t := "InvalidMachine") (xc_glob (t := "InvalidMachine") (by decide) rfl (Y.glo 12)) (XcL.cons (t := "InvalidMarks") (xc_glob (t := "InvalidMarks") (by decide) rfl (Y.glo 14)) (XcL.cons (t := "InvalidKind") (xc_glob (t := "InvalidKind") (by decide) rfl (Y.glo 15)) XcL.nil rfl) rfl) rfl) rfl) rfl) rfl) (by decide))) (by intro _; rfl)) (ss_one (s_ret x_bl)) ss_nil)
  (ss_cons (s_if (t_tst (w_of (x_xisT (es := ES) (all := EALL) (fl := EFL) (ers_ok (Y.more 5)) hc_e hz_e hv_e rfl rfl (Y.free 3) (pv 6) (XcL.cons (t := "InvalidPrimes") (xc_glob (t := "InvalidPrimes") (by decide) rfl (Y.glo 16)) (XcL.cons (t := "InvalidText") (xc_glob (t := "InvalidText") (by decide) rfl (Y.glo 17)) (XcL.cons (t := "InvalidCommand") (xc_glob (t := "InvalidCommand") (by decide) rfl (Y.glo 18)) (XcL.cons (t := "Undefined") (xc_glob (t := "Undefined") (by decide) rfl (Y.glo 19)) (XcL.cons (t := "NothingToDo") (xc_glob (t := "NothingToDo") (by decide) rfl (Y.glo 20)) (XcL.cons (t := "NothingKept") (xc_glob (t := "NothingKept") (by decide) rfl (Y.glo 21)) XcL.nil rfl) rfl) rfl) rfl) rfl) rfl) (by decide))) (by intro _; rfl)) (ss_one (s_ret x_bl)) ss_nil)
  (ss_one (s_ret (x_and (x_own1H T2 (cH_law_alike Y 12) (by decide) rfl (xa_cons (x_xfld (es := ES) (all := EALL) (fl := EFL) (ers_ok (Y.more 5)) hc_e hz_e hv_e (pv 6)) (xa_cons (x_idx T2.ix (w_of (x_var (pv 3) rfl)) (w_of x_int)) xa_nil))) (x_one (x_own1H T2 (cH_law_alike Y 12) (by decide) rfl (xa_cons (x_xfld (es := ES) (all := EALL) (fl := EFL) (ers_ok (Y.more 5)) hc_e hz_e hv_e (pv 6)) (xa_cons (x_idx T2.ix (w_of (x_var (pv 3) rfl)) (w_of x_int)) xa_nil)))))))))))))
  (ss_cons (s_if (PW.pt (t_or (t_notN (w_of (x_var (pv 3) rfl))) (t_or (t_not (t_tst (w_of (x_isi1 (cs := CS) (t := (.cls "Row")) rfl (kit_of_b (Y.more 0)) rfl (Y.free 3) (w_of (x_var (pv 5) rfl)) (pe_glob rfl (Y.glo 27) rfl))) (by intro _; rfl))) (t_or1 (t_not (t_tst (w_of (x_own1 T (c_law_alike Y 12) (by decide) rfl (xa_cons (x_t1 v_tuple n_tuple rfl (Y.free 4) hv_tuple (w_of (x_var (pv 1) rfl))) (xa_cons (x_var (pv 4) rfl) xa_nil)))) (by intro _; rfl))))))) (ss_one (s_ret x_bl)) ss_nil)
  (ss_one (s_ret (x_and (x_own1 T (c_law_alike Y 12) (by decide) rfl (xa_cons (x_attr (att_ok (Y.more 1)) (w_of (x_var (pv 5) rfl))) (xa_cons (x_var (pv 0) rfl) xa_nil))) (x_and (x_own1 T (c_law_alike Y 12) (by decide) rfl (xa_cons (x_attr (att_ok (Y.more 2)) (w_of (x_var (pv 5) rfl))) (xa_cons (x_var (pv 4) rfl) xa_nil))) (x_one (x_own1 T (c_law_alike Y 12) (by decide) rfl (xa_cons (x_attr (att_ok (Y.more 3)) (w_of (x_var (pv 5) rfl))) (xa_cons (x_var (pv 2) rfl) xa_nil))))))))))))))
theorem S__law_spoilt_number : FnScope N__law_spoilt_number ["ready", "draws"] sc__law_spoilt_number := ⟨rfl, rfl, rfl, by decide +kernel, rfl, by decide +kernel, by decide +kernel⟩
theorem c_law_spoilt_number (Y : Fs P w K mg) : CallOk P w K mg base 8 "_law_spoilt_number" d__law_spoilt_number ["ready", "draws"] 2 m_law_spoilt_number :=
  def_ok (d := d__law_spoilt_number) (N := N__law_spoilt_number) (ps := ["ready", "draws"]) (p := 2) (m := b__law_spoilt_number) (k := 7) (ow := ow__law_spoilt_number) (Y.def_ 28) (Y.glo 57) S__law_spoilt_number rfl rfl (by decide) (fun _ _ _ _ _ _ us hl => match us, hl with | [_, _], _ => rfl) (fun cdv A outer s H E T => (ss_cons (s_set (ps_set (i := 2) T.nd rfl (Or.inl rfl) (x_idx T.ix (w_of (e_of (f_lst (xa_cons x_non (xa_cons (x_new (cls := "Row") T (c_Row Y) (by decide) rfl (xa_cons x_int (xa_cons (e_of (f_lst xa_nil)) (xa_cons x_int xa_nil)))) (xa_cons (e_of (f_lst (xa_cons (e_of (f_lst xa_nil)) xa_nil))) (xa_cons (x_str (s := "")) (xa_cons (x_tup (xa_cons x_non xa_nil)) (xa_cons (x_tup (xa_cons (e_of (f_lst xa_nil)) xa_nil)) xa_nil))))))))) (w_of (x_bin y_mod n_mod (w_of (x_idx T.ix (w_of (x_var (pv 1) rfl)) (w_of x_int))) (w_of x_int))))) rfl)
  (ss_one (s_ret (x_idx T.ix (w_of (e_of (f_lst (xa_cons (x_un y_neg n_neg (w_of x_int)) (xa_cons (x_var (pv 0) rfl) (xa_cons (x_bin y_add n_add (w_of (x_var (pv 0) rfl)) (w_of (x_idx T.ix (w_of (x_var (pv 1) rfl)) (w_of x_int)))) (xa_cons x_bl (xa_cons x_bl (xa_cons (x_var (pv 2) rfl) (xa_cons (x_str (s := "0")) (xa_cons (x_tup (xa_cons x_int xa_nil)) (xa_cons (e_of (f_lst (xa_cons x_int xa_nil))) (xa_cons (x_un y_neg n_neg (w_of (x_bin y_pow n_pow (w_of x_int) (w_of x_int)))) xa_nil))))))))))))) (w_of (x_idx T.ix (w_of (x_var (pv 1) rfl)) (w_of x_int))))))))
theorem S__law_spoilt_count : FnScope N__law_spoilt_count ["deed", "ready", "draws"] sc__law_spoilt_count := ⟨rfl, rfl, rfl, by decide +kernel, rfl, by decide +kernel, by decide +kernel⟩
theorem c_law_spoilt_count (Y : Fs P w K mg) : CallOk P w K mg base 9 "_law_spoilt_count" d__law_spoilt_count ["deed", "ready", "draws"] 3 m_law_spoilt_count :=
  def_ok (d := d__law_spoilt_count) (N := N__law_spoilt_count) (ps := ["deed", "ready", "draws"]) (p := 3) (m := b__law_spoilt_count) (k := 8) (ow := ow__law_spoilt_count) (Y.def_ 29) (Y.glo 58) S__law_spoilt_count rfl rfl (by decide) (fun _ _ _ _ _ _ us hl => match us, hl with | [_, _, _], _ => rfl) (fun cdv A outer s H E T => (ss_cons (s_if (t_cmp T.eq n_eq b_eq (w_of (x_idx T.ix (w_of (x_var (pv 2) rfl)) (w_of x_int))) (w_of x_int) rfl) (ss_cons (s_set (ps_set (i := 3) T.nd rfl (Or.inl rfl) (x_idx T.ix (w_of (e_of (f_lst (xa_cons x_non (xa_cons (e_of (f_lst (xa_cons x_int xa_nil))) (xa_cons (x_new (cls := "Row") T (c_Row Y) (by decide) rfl (xa_cons x_int (xa_cons (e_of (f_lst xa_nil)) (xa_cons x_int xa_nil)))) (xa_cons (x_tup (xa_cons (e_of (f_lst xa_nil)) xa_nil)) xa_nil))))))) (w_of (x_bin y_mod n_mod (w_of (x_idx T.ix (w_of (x_var (pv 2) rfl)) (w_of x_int))) (w_of x_int))))) rfl)
  (ss_one (s_ret (x_bin y_add n_add (w_of (x_tup (xa_cons (x_str (s := "count")) (xa_cons (x_idx T.ix (w_of (e_of (f_lst (xa_cons x_int (xa_cons x_int (xa_cons x_int (xa_cons (x_bin y_add n_add (w_of x_int) (w_of (x_bin y_mod n_mod (w_of (x_idx T.ix (w_of (x_var (pv 2) rfl)) (w_of x_int))) (w_of x_int)))) (xa_cons x_bl (xa_cons (x_un y_neg n_neg (w_of x_int)) (xa_cons (x_var (pv 3) rfl) (xa_cons (x_str (s := "2")) (xa_cons (x_tup (xa_cons x_int xa_nil)) (xa_cons x_int xa_nil))))))))))))) (w_of (x_idx T.ix (w_of (x_var (pv 2) rfl)) (w_of x_int)))) xa_nil)))) (w_of (x_slc (w_of (x_var (pv 0) rfl)) (o_some x_int) o_none)))))) ss_nil)
  (ss_cons (s_if (t_cmp T.eq n_eq b_eq (w_of (x_idx T.ix (w_of (x_var (pv 2) rfl)) (w_of x_int))) (w_of x_int) rfl) (ss_one (s_ret (x_bin y_add n_add (w_of (x_slc (w_of (x_var (pv 0) rfl)) o_none (o_some x_int))) (w_of (x_tup (xa_cons (x_idx T.ix (w_of (e_of (f_lst (xa_cons (x_idx T.ix (w_of (x_var (pv 0) rfl)) (w_of x_int)) (xa_cons (x_un y_neg n_neg (w_of x_int)) (xa_cons x_bl (xa_cons x_bl (xa_cons x_non (xa_cons (x_str (s := "0")) (xa_cons (x_tup (xa_cons x_int xa_nil)) (xa_cons (x_bin y_add n_add (w_of (x_idx T.ix (w_of (x_var (pv 0) rfl)) (w_of x_int))) (w_of (x_idx T.ix (w_of (x_var (pv 2) rfl)) (w_of x_int)))) (xa_cons (e_of (f_lst (xa_cons x_int xa_nil))) (xa_cons (x_un y_neg n_neg (w_of x_int)) xa_nil))))))))))))) (w_of (x_idx T.ix (w_of (x_var (pv 2) rfl)) (w_of x_int)))) (xa_cons (x_idx T.ix (w_of (x_var (pv 0) rfl)) (w_of x_int)) xa_nil))))))) ss_nil)
  (ss_cons (s_if (t_cmp T.eq n_eq b_eq (w_of (x_idx T.ix (w_of (x_var (pv 2) rfl)) (w_of x_int))) (w_of x_int) rfl) (ss_cons (s_set (ps_set (i := 4) T.nd rfl (Or.inl rfl) (e_of (f_lst (xa_cons (e_of (f_list rfl rfl (Y.free 2) (w_of (x_idx T.ix (w_of (x_var (pv 0) rfl)) (w_of x_int))))) (xa_cons (x_tup xa_nil) (xa_cons (e_of (f_lst xa_nil)) (xa_cons (x_idx T.ix (w_of (x_idx T.ix (w_of (x_var (pv 0) rfl)) (w_of x_int))) (w_of x_int)) (xa_cons x_non (xa_cons (x_bin y_add n_add (w_of (x_idx T.ix (w_of (x_var (pv 0) rfl)) (w_of x_int))) (w_of (x_tup (xa_cons x_int (xa_cons x_int (xa_cons x_int (xa_cons x_int xa_nil))))))) (xa_cons (x_str (s := "0")) (xa_cons (x_tup (xa_cons (x_idx T.ix (w_of (x_var (pv 0) rfl)) (w_of x_int)) xa_nil)) (xa_cons x_bl (xa_cons (x_bin y_trep n_trep (w_of (x_tup (xa_cons x_int xa_nil))) (w_of x_int)) xa_nil))))))))))))) rfl)
  (ss_one (s_ret (x_bin y_add n_add (w_of (x_slc (w_of (x_var (pv 0) rfl)) o_none (o_some x_int))) (w_of (x_tup (xa_cons (x_idx T.ix (w_of (x_var (pv 4) rfl)) (w_of (x_idx T.ix (w_of (x_var (pv 2) rfl)) (w_of x_int)))) xa_nil))))))) ss_nil)
  (ss_cons (s_set (ps_set (i := 5) T.nd rfl (Or.inl rfl) (x_bin y_mod n_mod (w_of (x_idx T.ix (w_of (x_var (pv 2) rfl)) (w_of x_int))) (w_of (x_b1 v_len n_len rfl (Y.free 1) hv_len (w_of (x_idx T.ix (w_of (x_var (pv 0) rfl)) (w_of x_int))))))) rfl)
  (ss_one (s_ret (x_bin y_add n_add (w_of (x_slc (w_of (x_var (pv 0) rfl)) o_none (o_some x_int))) (w_of (x_tup (xa_cons (x_bin y_add n_add (w_of (x_bin y_add n_add (w_of (x_slc (w_of (x_idx T.ix (w_of (x_var (pv 0) rfl)) (w_of x_int))) o_none (o_some (x_var (pv 5) rfl)))) (w_of (x_tup (xa_cons (x_own1 T (c_law_spoilt_number Y) (by decide) rfl (xa_cons (x_var (pv 1) rfl) (xa_cons (x_var (pv 2) rfl) xa_nil))) xa_nil))))) (w_of (x_slc (w_of (x_idx T.ix (w_of (x_var (pv 0) rfl)) (w_of x_int))) (o_some (x_bin y_add n_add (w_of (x_var (pv 5) rfl)) (w_of x_int))) o_none))) xa_nil)))))))))))
theorem S__law_spoilt : FnScope N__law_spoilt ["deed", "ready", "draws"] sc__law_spoilt := ⟨rfl, rfl, rfl, by decide +kernel, rfl, by decide +kernel, by decide +kernel⟩
theorem c_law_spoilt (Y : Fs P w K mg) : CallOk P w K mg base 10 "_law_spoilt" d__law_spoilt ["deed", "ready", "draws"] 3 m_law_spoilt :=
  def_ok (d := d__law_spoilt) (N := N__law_spoilt) (ps := ["deed", "ready", "draws"]) (p := 3) (m := b__law_spoilt) (k := 9) (ow := ow__law_spoilt) (Y.def_ 30) (Y.glo 59) S__law_spoilt rfl rfl (by decide) (fun _ _ _ _ _ _ us hl => match us, hl with | [_, _, _], _ => rfl) (fun cdv A outer s H E T => (ss_cons (s_if (t_cmp T.eq n_eq b_eq (w_of (x_idx T.ix (w_of (x_var (pv 2) rfl)) (w_of x_int))) (w_of x_int) rfl) (ss_cons (s_set (ps_set (i := 3) T.nd rfl (Or.inl rfl) (x_new (cls := "Row") T (c_Row Y) (by decide) rfl (xa_cons x_int (xa_cons (e_of (f_lst xa_nil)) (xa_cons x_int xa_nil))))) rfl)
  (ss_cons (s_set (ps_set (i := 4) T.nd rfl (Or.inl rfl) (e_of (f_lst (xa_cons (e_of (f_list rfl rfl (Y.free 2) (w_of (x_var (pv 0) rfl)))) (xa_cons x_non (xa_cons x_int (xa_cons (x_str (s := "zero")) (xa_cons (x_tup xa_nil) (xa_cons x_bl (xa_cons (x_idx T.ix (w_of (x_var (pv 0) rfl)) (w_of x_int)) (xa_cons (x_tup (xa_cons (x_var (pv 0) rfl) xa_nil)) (xa_cons (e_of (f_lst (xa_cons (x_str (s := "ones")) xa_nil))) (xa_cons (x_tup (xa_cons x_int xa_nil)) (xa_cons (x_tup (xa_cons (e_of (f_lst (xa_cons x_int xa_nil))) xa_nil)) (xa_cons (x_tup (xa_cons x_int (xa_cons x_non xa_nil))) (xa_cons (x_var (pv 3) rfl) (xa_cons (x_tup (xa_cons (x_var (pv 3) rfl) xa_nil)) xa_nil))))))))))))))))) rfl)
  (ss_one (s_ret (x_idx T.ix (w_of (x_bin y_add n_add (w_of (x_var (pv 4) rfl)) (w_of (e_of (f_lst (xa_cons (x_tup (xa_cons x_int (xa_cons (x_tup (xa_cons (e_of (f_lst xa_nil)) xa_nil)) xa_nil))) (xa_cons (x_tup (xa_cons (e_of (f_lst xa_nil)) xa_nil)) (xa_cons (e_of (f_lst (xa_cons (e_of (f_lst xa_nil)) xa_nil))) (xa_cons (x_tup (xa_cons x_non xa_nil)) (xa_cons (x_tup (xa_cons (x_str (s := "count")) xa_nil)) (xa_cons (x_un y_neg n_neg (w_of x_int)) xa_nil))))))))))) (w_of (x_bin y_mod n_mod (w_of (x_idx T.ix (w_of (x_var (pv 2) rfl)) (w_of x_int))) (w_of x_int)))))))) ss_nil)
  (ss_cons (s_if (t_cmp T.eq n_eq b_eq (w_of (x_idx T.ix (w_of (x_var (pv 2) rfl)) (w_of x_int))) (w_of x_int) rfl) (ss_cons (s_set (ps_set (i := 5) T.nd rfl (Or.inl rfl) (e_of (f_lst (xa_cons (x_str (s := "nand")) (xa_cons (x_str (s := "Not")) (xa_cons (x_str (s := "")) (xa_cons (x_str (s := "counts")) (xa_cons x_non (xa_cons x_int (xa_cons (x_str (s := "and ")) (xa_cons (x_tup (xa_cons (x_str (s := "not")) xa_nil)) (xa_cons x_bl (xa_cons (x_str (s := "value")) (xa_cons (e_of (f_lst (xa_cons (x_str (s := "not")) xa_nil))) (xa_cons (e_of (f_lst xa_nil)) (xa_cons (x_new (cls := "Row") T (c_Row Y) (by decide) rfl (xa_cons x_int (xa_cons (e_of (f_lst xa_nil)) (xa_cons x_int xa_nil)))) (xa_cons (e_of (f_lst (xa_cons (e_of (f_lst xa_nil)) xa_nil))) xa_nil))))))))))))))))) rfl)
  (ss_one (s_ret (x_bin y_add n_add (w_of (x_tup (xa_cons (x_idx T.ix (w_of (x_var (pv 5) rfl)) (w_of (x_bin y_mod n_mod (w_of (x_idx T.ix (w_of (x_var (pv 2) rfl)) (w_of x_int))) (w_of x_int)))) xa_nil))) (w_of (x_slc (w_of (x_var (pv 0) rfl)) (o_some x_int) o_none)))))) ss_nil)
  (ss_cons (s_if (t_cmp T.eq n_eq b_eq (w_of (x_idx T.ix (w_of (x_var (pv 2) rfl)) (w_of x_int))) (w_of x_int) rfl) (ss_one (s_ret (x_slc (w_of (x_var (pv 0) rfl)) o_none (o_some (x_bin y_sub n_sub (w_of (x_b1 v_len n_len rfl (Y.free 1) hv_len (w_of (x_var (pv 0) rfl)))) (w_of x_int)))))) ss_nil)
  (ss_cons (s_if (t_cmp T.eq n_eq b_eq (w_of (x_idx T.ix (w_of (x_var (pv 2) rfl)) (w_of x_int))) (w_of x_int) rfl) (ss_one (s_ret (x_bin y_add n_add (w_of (x_var (pv 0) rfl)) (w_of (x_tup (xa_cons x_int xa_nil)))))) ss_nil)
  (ss_cons (s_if (t_cmp T.eq n_eq b_eq (w_of (x_idx T.ix (w_of (x_var (pv 0) rfl)) (w_of x_int))) (w_of (x_str (s := "count"))) rfl) (ss_one (s_ret (x_own1 T (c_law_spoilt_count Y) (by decide) rfl (xa_cons (x_var (pv 0) rfl) (xa_cons (x_var (pv 1) rfl) (xa_cons (x_var (pv 2) rfl) xa_nil)))))) ss_nil)
  (ss_cons (s_if (t_cmp T.eq n_eq b_eq (w_of (x_b1 v_len n_len rfl (Y.free 1) hv_len (w_of (x_var (pv 0) rfl)))) (w_of x_int) rfl) (ss_one (s_ret (x_tup (xa_cons (x_str (s := "not")) (xa_cons (x_own1 T (c_law_spoilt_number Y) (by decide) rfl (xa_cons (x_var (pv 1) rfl) (xa_cons (x_var (pv 2) rfl) xa_nil))) xa_nil))))) ss_nil)
  (ss_cons (s_set (ps_set (i := 6) T.nd rfl (Or.inl rfl) (x_bin y_add n_add (w_of x_int) (w_of (x_bin y_mod n_mod (w_of (x_idx T.ix (w_of (x_var (pv 2) rfl)) (w_of x_int))) (w_of (x_bin y_sub n_sub (w_of (x_b1 v_len n_len rfl (Y.free 1) hv_len (w_of (x_var (pv 0) rfl)))) (w_of x_int))))))) rfl)
  (ss_one (s_ret (x_bin y_add n_add (w_of (x_bin y_add n_add (w_of (x_slc (w_of (x_var (pv 0) rfl)) o_none (o_some (x_var (pv 6) rfl)))) (w_of (x_tup (xa_cons (x_own1 T (c_law_spoilt_number Y) (by decide) rfl (xa_cons (x_var (pv 1) rfl) (xa_cons (x_var (pv 2) rfl) xa_nil))) xa_nil))))) (w_of (x_slc (w_of (x_var (pv 0) rfl)) (o_some (x_bin y_add n_add (w_of (x_var (pv 6) rfl)) (w_of x_int))) o_none)))))))))))))
theorem S__law_spoilt_deeds : FnScope N__law_spoilt_deeds ["inputs", "deeds", "draws"] sc__law_spoilt_deeds := ⟨rfl, rfl, rfl, by decide +kernel, rfl, by decide +kernel, by decide +kernel⟩
theorem c_law_spoilt_deeds (Y : Fs P w K mg) : CallOk P w K mg base 11 "_law_spoilt_deeds" d__law_spoilt_deeds ["inputs", "deeds", "draws"] 3 m_law_spoilt_deeds :=
  def_ok (d := d__law_spoilt_deeds) (N := N__law_spoilt_deeds) (ps := ["inputs", "deeds", "draws"]) (p := 3) (m := b__law_spoilt_deeds) (k := 10) (ow := ow__law_spoilt_deeds) (oN := owS []) (oB := owS []) (Y.def_ 31) (Y.glo 60) S__law_spoilt_deeds rfl rfl (by decide) (fun _ _ _ _ _ _ us hl => match us, hl with | [_, _, _], _ => rfl) (fun cdv A outer s H E T => (c_cons (o1 := owS []) (c_if (PW.pt (t_or (t_cmp T.eq n_eq b_eq (w_of (x_idx T.ix (w_of (x_var (pv 2) rfl)) (w_of x_int))) (w_of x_int) rfl) (t_or1 (t_cmp T.eq n_eq b_eq (w_of (x_b1 v_len n_len rfl (Y.free 1) hv_len (w_of (x_var (pv 1) rfl)))) (w_of x_int) rfl)))) (c_one (s_up (s_ret (x_idx T.ix (w_of (e_of (f_lst (xa_cons x_non (xa_cons x_int (xa_cons x_bl (xa_cons (x_str (s := "ab")) (xa_cons (x_new (cls := "Row") T (c_Row Y) (by decide) rfl (xa_cons x_int (xa_cons (e_of (f_lst xa_nil)) (xa_cons x_int xa_nil)))) (xa_cons (x_un y_neg n_neg (w_of x_int)) (xa_cons (x_str (s := "")) (xa_cons (x_bin y_pow n_pow (w_of x_int) (w_of x_int)) (xa_cons x_bl (xa_cons x_int xa_nil))))))))))))) (w_of (x_idx T.ix (w_of (x_var (pv 2) rfl)) (w_of x_int))))) (owS_le (by decide)) (by decide))) (c_cut (o1 := owS []) c_nil (owS_le (by decide)) (by decide)))
  (c_cons (o1 := owS [3]) (c_own (ps_set (i := 3) T.nd rfl (Or.inl rfl) (f_list rfl rfl (Y.free 2) (w_of (x_var (pv 1) rfl)))) rfl (owS_add (by decide)))
  (c_cons (o1 := owS [3]) (s_up (s_set (s_f (s_lc0 (i := 4) (own := [("j", 7)]) T rfl rfl rfl (i_gr (i_rng1 rfl (Y.free 0) (x_b1 v_len n_len rfl (Y.free 1) hv_len (w_of (x_var (pv 1) rfl))))) (blkOk_by (N := N__law_spoilt_deeds) (sc := sc__law_spoilt_deeds) (own := [("j", 7)]) (by decide +kernel)) (fun _ _ _ _ _ T1 => (g_nm (pg_name (i := 7) T1.nd rfl (Or.inl rfl)) rfl)) (fun _ _ _ _ _ T1 => (ts_one (t_cmp T1.eq n_eq b_eq (w_of (x_idx T1.ix (w_of (x_idx T1.ix (w_of (x_var (pv 1) rfl)) (w_of (x_var (pv 7) rfl)))) (w_of x_int))) (w_of (x_str (s := "count"))) rfl))) (fun _ _ _ _ _ T1 => (x_var (pv 7) rfl)) (by decide))) rfl) (owS_le (by decide)) (by decide))
  (c_cons (o1 := owS [3]) (c_if (PW.pt (t_and (t_cmp y_gt n_gt b_gt (w_of (x_idx T.ix (w_of (x_var (pv 2) rfl)) (w_of x_int))) (w_of x_int) rfl) (t_and1 (t_cmp y_gt n_gt b_gt (w_of (x_b1 v_len n_len rfl (Y.free 1) hv_len (w_of (x_var (pv 4) rfl)))) (w_of x_int) rfl)))) (c_cons (o1 := owS [3]) (s_up (s_set (ps_set (i := 5) T.nd rfl (Or.inl rfl) (x_idx T.ix (w_of (x_var (pv 4) rfl)) (w_of (x_bin y_mod n_mod (w_of (x_idx T.ix (w_of (x_var (pv 2) rfl)) (w_of x_int))) (w_of (x_b1 v_len n_len rfl (Y.free 1) hv_len (w_of (x_var (pv 4) rfl)))))))) rfl) (owS_le (by decide)) (by decide))
  (c_cons (o1 := owS [3]) (s_up (s_setL (i := 3) (ps_asg (x_own1 T (c_law_spoilt_count Y) (by decide) rfl (xa_cons (x_idx T.ix (w_of (x_var (pv 1) rfl)) (w_of (x_var (pv 5) rfl))) (xa_cons (x_bin y_add n_add (w_of (x_var (pv 0) rfl)) (w_of (x_var (pv 5) rfl))) (xa_cons (x_var (pv 2) rfl) xa_nil)))) (pg_sub (pv 3) (x_var (pv 5) rfl) T.st)) rfl) (owS_le (by decide)) (by decide))
  (c_cut (o1 := owS []) (c_one (c_stop (o1 := owS []) nn_ret (s_up (s_ret (x_var (pv 3) rfl)) (owS_le (by decide)) (by decide)))) (owS_le (by decide)) (by decide)))) (c_cut (o1 := owS [3]) c_nil (owS_le (by decide)) (by decide)))
  (c_cons (o1 := owS [3]) (s_up (s_for T.po T.calm (i_rng1 rfl (Y.free 0) (x_bin y_add n_add (w_of x_int) (w_of (x_idx T.ix (w_of (x_var (pv 2) rfl)) (w_of x_int))))) (g_nm (pg_name (i := 6) T.nd rfl (Or.inl rfl)) rfl) (c_cons (o1 := owS [3]) (s_up (s_set (ps_set (i := 5) T.nd rfl (Or.inl rfl) (x_bin y_mod n_mod (w_of (x_idx T.ix (w_of (x_var (pv 2) rfl)) (w_of (x_bin y_add n_add (w_of x_int) (w_of (x_var (pv 6) rfl)))))) (w_of (x_b1 v_len n_len rfl (Y.free 1) hv_len (x_own (pv 3)))))) rfl) (owS_le (by decide)) (by decide))
  (c_one (s_up (s_setL (i := 3) (ps_asg (x_own1 T (c_law_spoilt Y) (by decide) rfl (xa_cons (x_idx T.ix (w_of (x_var (pv 1) rfl)) (w_of (x_var (pv 5) rfl))) (xa_cons (x_bin y_add n_add (w_of (x_var (pv 0) rfl)) (w_of (x_var (pv 5) rfl))) (xa_cons (x_var (pv 2) rfl) xa_nil)))) (pg_sub (pv 3) (x_var (pv 5) rfl) T.st)) rfl) (owS_le (by decide)) (by decide))))) (owS_le (by decide)) (by decide))
  (c_cut (o1 := owS []) (c_one (s_up (s_ret (x_var (pv 3) rfl)) (owS_le (by decide)) (by decide))) (owS_le (by decide)) (by decide))))))))
theorem S__law_holds : FnScope N__law_holds ["script"] sc__law_holds := ⟨rfl, rfl, rfl, by decide +kernel, rfl, by decide +kernel, by decide +kernel⟩
theorem c_law_holds (Y : Fs P w K mg) : CallOk P w K mg base 16 "_law_holds" d__law_holds ["script"] 1 m_law_holds :=
  def_ok (d := d__law_holds) (N := N__law_holds) (ps := ["script"]) (p := 1) (m := b__law_holds) (k := 15) (ow := ow__law_holds) (oN := owS []) (oB := owS []) (Y.def_ 32) (Y.glo 61) S__law_holds rfl rfl (by decide) (fun _ _ _ _ _ _ us hl => match us, hl with | [_], _ => rfl) (fun cdv A outer s H E T => (c_cons (o1 := owS []) (s_up (s_set (ps_set (i := 1) T.nd rfl (Or.inl rfl) (x_own1 T (c_law_draws Y) (by decide) rfl (xa_cons (x_own1 T (c_law_cell Y) (by decide) rfl (xa_cons (x_var (pv 0) rfl) (xa_cons x_int xa_nil))) (xa_cons (e_of (f_lst (xa_cons x_int (xa_cons x_int (xa_cons x_int (xa_cons x_int (xa_cons x_int (xa_cons x_int (xa_cons x_int (xa_cons x_int (xa_cons x_int (xa_cons x_int xa_nil)))))))))))) xa_nil)))) rfl) (owS_le (by decide)) (by decide))
  (c_cons (o1 := owS []) (s_up (s_set (ps_set (i := 2) T.nd rfl (Or.inl rfl) (x_bin y_add n_add (w_of x_int) (w_of (x_idx T.ix (w_of (x_var (pv 1) rfl)) (w_of x_int))))) rfl) (owS_le (by decide)) (by decide))
  (c_cons (o1 := owS [3]) (c_own (ps_set (i := 3) T.nd rfl (Or.inl rfl) (f_lst xa_nil)) rfl (owS_add (by decide)))
  (c_cons (o1 := owS [3]) (s_up (s_for T.po T.calm (i_rng1 rfl (Y.free 0) (x_idx T.ix (w_of (x_var (pv 1) rfl)) (w_of x_int))) (g_nm (pg_name (i := 4) T.nd rfl (Or.inl rfl)) rfl) (c_one (s_up (s_app1 (i := 3) (pv 3) (x_own1 T (c_law_deed Y) (by decide) rfl (xa_cons (x_own1 T (c_law_draws Y) (by decide) rfl (xa_cons (x_own1 T (c_law_cell Y) (by decide) rfl (xa_cons (x_var (pv 0) rfl) (xa_cons (x_bin y_add n_add (w_of x_int) (w_of (x_var (pv 4) rfl))) xa_nil))) (xa_cons (e_of (f_lst (xa_cons x_int (xa_cons x_int (xa_cons x_int (xa_cons x_int (xa_cons x_int (xa_cons x_int (xa_cons x_int xa_nil))))))))) xa_nil))) (xa_cons (x_bin y_add n_add (w_of (x_var (pv 2) rfl)) (w_of (x_var (pv 4) rfl))) xa_nil))) rfl) (owS_le (by decide)) (by decide)))) (owS_le (by decide)) (by decide))
  (c_cut (o1 := owS []) (c_cons (o1 := owS []) (s_up (s_set (ps_set (i := 5) T.nd rfl (Or.inl rfl) (x_bin y_add n_add (w_of (x_var (pv 2) rfl)) (w_of (x_b1 v_len n_len rfl (Y.free 1) hv_len (w_of (x_var (pv 3) rfl)))))) rfl) (owS_le (by decide)) (by decide))
  (c_cons (o1 := owS []) (c_if (t_not (t_tst (w_of (x_own1 T (c_law_made_rightly Y) (by decide) rfl (xa_cons (x_var (pv 2) rfl) (xa_cons (e_of (f_list rfl rfl (Y.free 2) (w_of (x_var (pv 3) rfl)))) (xa_cons (x_bin y_mod n_mod (w_of (x_idx T.ix (w_of (x_var (pv 1) rfl)) (w_of x_int))) (w_of (x_var (pv 5) rfl))) xa_nil))))) (by intro _; rfl))) (c_one (s_up (s_ret x_bl) (owS_le (by decide)) (by decide))) (c_cut (o1 := owS []) c_nil (owS_le (by decide)) (by decide)))
  (c_cons (o1 := owS []) (s_up (s_set (ps_set (i := 6) T.nd rfl (Or.inl rfl) (x_own1 T (c_law_draws Y) (by decide) rfl (xa_cons (x_own1 T (c_law_cell Y) (by decide) rfl (xa_cons (x_var (pv 0) rfl) (xa_cons x_int xa_nil))) (xa_cons (e_of (f_lst (xa_cons x_int (xa_cons x_int (xa_cons x_int (xa_cons x_int (xa_cons x_int (xa_cons x_int (xa_cons x_int (xa_cons x_int (xa_cons x_int xa_nil))))))))))) xa_nil)))) rfl) (owS_le (by decide)) (by decide))
  (c_cons (o1 := owS []) (s_up (s_set (ps_set (i := 7) T.nd rfl (Or.inl rfl) (x_var (pv 2) rfl)) rfl) (owS_le (by decide)) (by decide))
  (c_cons (o1 := owS []) (s_up (s_set (ps_set (i := 8) T.nd rfl (Or.inl rfl) (e_of (f_list rfl rfl (Y.free 2) (w_of (x_var (pv 3) rfl))))) rfl) (owS_le (by decide)) (by decide))
  (c_cons (o1 := owS []) (s_up (s_set (ps_set (i := 9) T.nd rfl (Or.inl rfl) (x_bin y_mod n_mod (w_of (x_idx T.ix (w_of (x_var (pv 1) rfl)) (w_of x_int))) (w_of (x_var (pv 5) rfl)))) rfl) (owS_le (by decide)) (by decide))
  (c_cons (o1 := owS []) (s_up (s_set (ps_set (i := 10) T.nd rfl (Or.inl rfl) (x_idx T.ix (w_of (e_of (f_lst (xa_cons x_int (xa_cons x_int (xa_cons (x_un y_neg n_neg (w_of x_int)) (xa_cons x_bl (xa_cons x_non (xa_cons (x_str (s := "1")) (xa_cons (x_tup (xa_cons x_int xa_nil)) (xa_cons (x_bin y_pow n_pow (w_of x_int) (w_of x_int)) (xa_cons x_bl (xa_cons (e_of (f_lst (xa_cons x_int xa_nil))) xa_nil))))))))))))) (w_of (x_idx T.ix (w_of (x_var (pv 1) rfl)) (w_of x_int))))) rfl) (owS_le (by decide)) (by decide))
  (c_cons (o1 := owS []) (s_up (s_set (ps_set (i := 11) T.nd rfl (Or.inl rfl) (x_idx T.ix (w_of (e_of (f_lst (xa_cons (x_un y_neg n_neg (w_of x_int)) (xa_cons (x_var (pv 5) rfl) (xa_cons (x_bin y_add n_add (w_of (x_var (pv 5) rfl)) (w_of (x_idx T.ix (w_of (x_var (pv 1) rfl)) (w_of x_int)))) (xa_cons x_bl (xa_cons x_bl (xa_cons x_non (xa_cons (x_str (s := "0")) (xa_cons (x_tup (xa_cons x_int xa_nil)) (xa_cons (e_of (f_lst (xa_cons x_int xa_nil))) (xa_cons (x_un y_neg n_neg (w_of (x_bin y_pow n_pow (w_of x_int) (w_of x_int)))) xa_nil))))))))))))) (w_of (x_idx T.ix (w_of (x_var (pv 1) rfl)) (w_of x_int))))) rfl) (owS_le (by decide)) (by decide))
  (c_cons (o1 := owS []) (c_if (t_cmp T.eq n_eq b_eq (w_of (x_idx T.ix (w_of (x_var (pv 1) rfl)) (w_of x_int))) (w_of x_int) rfl) (c_one (s_up (s_set (ps_set (i := 7) T.nd rfl (Or.inl rfl) (x_var (pv 10) rfl)) rfl) (owS_le (by decide)) (by decide))) (c_cut (o1 := owS []) c_nil (owS_le (by decide)) (by decide)))
  (c_cons (o1 := owS []) (c_if (t_cmp T.eq n_eq b_eq (w_of (x_idx T.ix (w_of (x_var (pv 1) rfl)) (w_of x_int))) (w_of x_int) rfl) (c_one (s_up (s_set (ps_set (i := 9) T.nd rfl (Or.inl rfl) (x_var (pv 11) rfl)) rfl) (owS_le (by decide)) (by decide))) (c_cut (o1 := owS []) c_nil (owS_le (by decide)) (by decide)))
  (c_cons (o1 := owS []) (c_if (t_cmp y_gt n_gt b_gt (w_of (x_idx T.ix (w_of (x_var (pv 1) rfl)) (w_of x_int))) (w_of x_int) rfl) (c_cons (o1 := owS []) (s_up (s_set (ps_set (i := 8) T.nd rfl (Or.inl rfl) (x_own1 T (c_law_spoilt_deeds Y) (by decide) rfl (xa_cons (x_var (pv 2) rfl) (xa_cons (x_var (pv 3) rfl) (xa_cons (x_var (pv 6) rfl) xa_nil))))) rfl) (owS_le (by decide)) (by decide))
  (c_one (c_if (PW.pt (t_and (t_cmp T.eq n_eq b_eq (w_of (x_idx T.ix (w_of (x_var (pv 1) rfl)) (w_of x_int))) (w_of x_int) rfl) (t_and1 (t_tst (w_of (x_isi1 (cs := CS) (t := .lst) rfl (kit_of_b (Y.more 0)) rfl (Y.free 3) (w_of (x_var (pv 8) rfl)) (pe_bltn rfl (Y.free 2) hv_list rfl))) (by intro _; rfl))))) (c_one (s_up (s_set (ps_set (i := 8) T.nd rfl (Or.inl rfl) (x_t1 v_tuple n_tuple rfl (Y.free 4) hv_tuple (w_of (x_var (pv 8) rfl)))) rfl) (owS_le (by decide)) (by decide))) (c_cut (o1 := owS []) c_nil (owS_le (by decide)) (by decide))))) (c_cut (o1 := owS []) c_nil (owS_le (by decide)) (by decide)))
  (c_cons (o1 := owS []) (c_if (PW.pt (t_or (t_not (t_tst (w_of (x_own1 T (c_law_made_rightly Y) (by decide) rfl (xa_cons (x_var (pv 7) rfl) (xa_cons (x_var (pv 8) rfl) (xa_cons (x_var (pv 9) rfl) xa_nil))))) (by intro _; rfl))) (t_or1 (t_not (t_tst (w_of (x_own1 T (c_law_made_rightly Y) (by decide) rfl (xa_cons (x_var (pv 10) rfl) (xa_cons (e_of (f_list rfl rfl (Y.free 2) (w_of (x_var (pv 3) rfl)))) (xa_cons (x_var (pv 11) rfl) xa_nil))))) (by intro _; rfl)))))) (c_one (s_up (s_ret x_bl) (owS_le (by decide)) (by decide))) (c_cut (o1 := owS []) c_nil (owS_le (by decide)) (by decide)))
  (c_cons (o1 := owS []) (c_if (t_not (t_tst (w_of (x_own1 T (c_law_made_rightly Y) (by decide) rfl (xa_cons (x_var (pv 10) rfl) (xa_cons (x_own1 T (c_law_spoilt_deeds Y) (by decide) rfl (xa_cons (x_var (pv 2) rfl) (xa_cons (x_var (pv 3) rfl) (xa_cons (x_var (pv 6) rfl) xa_nil)))) (xa_cons (x_var (pv 11) rfl) xa_nil))))) (by intro _; rfl))) (c_one (s_up (s_ret x_bl) (owS_le (by decide)) (by decide))) (c_cut (o1 := owS []) c_nil (owS_le (by decide)) (by decide)))
  (c_cons (o1 := owS []) (s_up (s_set (ps_set (i := 12) T.nd rfl (Or.inl rfl) (x_idx T.ix (w_of (e_of (f_lst (xa_cons x_int (xa_cons x_int (xa_cons x_int (xa_cons x_int (xa_cons x_int (xa_cons x_int (xa_cons x_int (xa_cons x_int (xa_cons x_int (xa_cons x_int xa_nil))))))))))))) (w_of (x_bin y_mod n_mod (w_of (x_idx T.ix (w_of (x_var (pv 1) rfl)) (w_of x_int))) (w_of x_int))))) rfl) (owS_le (by decide)) (by decide))
  (c_cons (o1 := owS []) (c_if (t_not (t_tst (w_of (x_own1 T (c_law_made_rightly Y) (by decide) rfl (xa_cons (x_var (pv 2) rfl) (xa_cons (x_bin y_add n_add (w_of (e_of (f_list rfl rfl (Y.free 2) (w_of (x_var (pv 3) rfl))))) (w_of (e_of (f_lst (xa_cons (x_tup (xa_cons (x_str (s := "count")) (xa_cons (x_var (pv 12) rfl) (xa_cons (x_bin y_mod n_mod (w_of (x_idx T.ix (w_of (x_var (pv 1) rfl)) (w_of x_int))) (w_of (x_var (pv 12) rfl))) (xa_cons (x_tup (xa_cons x_int xa_nil)) xa_nil))))) xa_nil))))) (xa_cons (x_bin y_sub n_sub (w_of (x_var (pv 5) rfl)) (w_of x_int)) xa_nil))))) (by intro _; rfl))) (c_one (s_up (s_ret x_bl) (owS_le (by decide)) (by decide))) (c_cut (o1 := owS []) c_nil (owS_le (by decide)) (by decide)))
  (c_cons (o1 := owS []) (s_up (s_for T.po T.calm (i_rng1 rfl (Y.free 0) x_int) (g_nm (pg_name (i := 13) T.nd rfl (Or.inl rfl)) rfl) (c_cons (o1 := owS []) (s_up (s_set (ps_set (i := 6) T.nd rfl (Or.inl rfl) (x_own1 T (c_law_draws Y) (by decide) rfl (xa_cons (x_own1 T (c_law_cell Y) (by decide) rfl (xa_cons (x_var (pv 0) rfl) (xa_cons (x_bin y_add n_add (w_of x_int) (w_of (x_var (pv 13) rfl))) xa_nil))) (xa_cons (e_of (f_lst (xa_cons x_int (xa_cons x_int (xa_cons x_int (xa_cons x_int (xa_cons x_int (xa_cons x_int (xa_cons x_int (xa_cons x_int (xa_cons x_int xa_nil))))))))))) xa_nil)))) rfl) (owS_le (by decide)) (by decide))
  (c_one (c_if (t_not (t_tst (w_of (x_own1 T (c_law_made_rightly Y) (by decide) rfl (xa_cons (x_var (pv 2) rfl) (xa_cons (x_own1 T (c_law_spoilt_deeds Y) (by decide) rfl (xa_cons (x_var (pv 2) rfl) (xa_cons (x_var (pv 3) rfl) (xa_cons (x_var (pv 6) rfl) xa_nil)))) (xa_cons (x_bin y_sub n_sub (w_of (x_var (pv 5) rfl)) (w_of x_int)) xa_nil))))) (by intro _; rfl))) (c_one (s_up (s_ret x_bl) (owS_le (by decide)) (by decide))) (c_cut (o1 := owS []) c_nil (owS_le (by decide)) (by decide)))))) (owS_le (by decide)) (by decide))
  (c_cons (o1 := owS []) (c_if (t_not (t_tst (w_of (x_own1 T (c_law_made_rightly Y) (by decide) rfl (xa_cons (x_var (pv 2) rfl) (xa_cons (x_t1 v_tuple n_tuple rfl (Y.free 4) hv_tuple (w_of (x_var (pv 3) rfl))) (xa_cons (x_bin y_sub n_sub (w_of (x_var (pv 5) rfl)) (w_of x_int)) xa_nil))))) (by intro _; rfl))) (c_one (s_up (s_ret x_bl) (owS_le (by decide)) (by decide))) (c_cut (o1 := owS []) c_nil (owS_le (by decide)) (by decide)))
  (c_one (s_up (s_ret (x_own1 T (c_law_calls_refused Y) (by decide) rfl (xa_cons (x_new (cls := "Row") T (c_Row Y) (by decide) rfl (xa_cons (x_var (pv 2) rfl) (xa_cons (e_of (f_list rfl rfl (Y.free 2) (w_of (x_var (pv 3) rfl)))) (xa_cons (x_bin y_sub n_sub (w_of (x_var (pv 5) rfl)) (w_of x_int)) xa_nil)))) (xa_cons (x_idx T.ix (w_of (x_var (pv 1) rfl)) (w_of x_int)) (xa_cons (x_own1 T (c_law_draws Y) (by decide) rfl (xa_cons (x_own1 T (c_law_cell Y) (by decide) rfl (xa_cons (x_var (pv 0) rfl) (xa_cons x_int xa_nil))) (xa_cons (x_bin y_add n_add (w_of (e_of (f_lst (xa_cons x_int xa_nil)))) (w_of (e_of (f_rep (f_lst (xa_cons x_int xa_nil)) (w_of x_int))))) xa_nil))) xa_nil))))) (owS_le (by decide)) (by decide)))))))))))))))))))) (owS_le (by decide)) (by decide)))))))
theorem S_law : FnScope N_law ["script"] sc_law := ⟨rfl, rfl, rfl, by decide +kernel, rfl, by decide +kernel, by decide +kernel⟩
theorem law_is (Y : Fs P w K mg) : ∃ fd : FuncData, (∀ (s : Shared) (u : Value), BindsTo s fd ⟨[u], []⟩ [("script", u)]) ∧ ∀ base : Heap, FnOk P w K mg base (L2N.CX P w) 17 (He.ga K "law") fd ["script"] (spM K 1 m_law) :=
  law_ok (qual := "law") (params := defArgs st_law) (body := defBody st_law) (scope := sc_law) (f := He.ga K "law") (N := N_law) (m := b_law) (ow := ow_law) (Y.def_ 33) S_law rfl rfl (fun _ _ _ _ _ _ us hl => match us, hl with | [_], _ => rfl) (fun base cdv A outer s H E T => (ss_one (s_thru T fun T1 => (ss_one (s_ret (x_own1 T1 (c_law_holds Y) (by decide) rfl (xa_cons (x_var (pv 0) rfl) xa_nil)))))))
end
abbrev lo0 : List Str := ["is_integer", "is_number", "is_inputs", "as_tuple", "is_below", "is_word", "are_words", "CarryError", "InvalidNumber", "InvalidWords", "InvalidReading", "InvalidMachine", "InvalidRow", "InvalidMarks", "InvalidKind", "InvalidPrimes", "InvalidText", "InvalidCommand", "Undefined", "NothingToDo", "NothingKept", "SIZES", "are_values", "is_count_deed", "is_deed", "counted_word", "deed_word", "Row", "_law_cell", "_law_mixed"]
abbrev lo1 : List Str := ["_law_draws", "_law_deed", "_law_in_range", "_law_all_in_range", "_law_is_deed", "_law_fault", "_law_spoilt_number", "_law_spoilt_count", "_law_spoilt", "_law_spoilt_deeds", "_law_alike", "_law_alike_members", "_law_made_rightly", "_law_refused", "_law_calls_refused", "_law_holds"]
abbrev lo : List Str := lo0 ++ lo1
abbrev R : PySem.W.OpenRow := PySem.W.OpenLaw.row PySem.Challenge.rw_onlycarries_k11_faults_of_rows
abbrev hkY : PySem.W.Hook := hookY 5 (fun K => noL K && mss.all fun m => m K) fa fns xfs tbs
def ob (s : PySem.W.SharedT) : AlY := obsYG 5 (fun K => noL K && mss.all fun m => m K) fa fns xfs tbs (HandSHeadRun.getT s)
theorem ob_eq (s : PySem.W.SharedT) : ob s = hkY.obs s.abs := obsYG_eq (HandSHeadRun.getT_eq s)
end Py
namespace Py
open PySem PySem.Spec PyProof.Rows L2
theorem run0 (w : World) : HandSHeadRun.RunEq R (PySem.W.view R.prog [50]) hkY ob 8000 lo (w.withFollow "special-get-raises" false) := by
  intro os
  kernel_rfl
theorem run1 (w : World) : HandSHeadRun.RunEq R (PySem.W.view R.prog [50]) hkY ob 8000 lo (w.withFollow "special-get-raises" true) := by
  intro os
  kernel_rfl
theorem run (w : World) : HandSHeadRun.RunEq R (PySem.W.view R.prog [50]) hkY ob 8000 lo w := PySem.W.byRow2 "special-get-raises" run0 run1 w
end Py
open PySem PySem.W PySem.Calls PyProof.Rows
theorem PySem.Challenge.cw_onlycarries_k11_faults_of_rows_holds : PySem.Challenge.rw_onlycarries_k11_faults_of_rows.Holds := by
  w_on; o_law
  refine HandSHeadRun.head_any (r := OpenLaw.row PySem.Challenge.rw_onlycarries_k11_faults_of_rows) (q := view (OpenLaw.row PySem.Challenge.rw_onlycarries_k11_faults_of_rows).prog [50]) (H := Py.hkY) (ob := Py.ob) (M := 8000) (loose := Py.lo) (d := HandSHeadRun.topDef (OpenLaw.row PySem.Challenge.rw_onlycarries_k11_faults_of_rows).prog 50) (kwd := []) Py.ob_eq
    (by kernel_rfl) (fun s => by kernel_rfl) Py.run (by kernel_rfl) (by kernel_rfl) (by kernel_rfl) (by rfl) (by first | assumption | decide +kernel) (by decide +kernel) ⟨rfl, rfl, rfl, rfl, rfl, by decide +kernel⟩ ?hw ?hc
  case hw => w_witness2
  case hc =>
    refine Py.walk_ofW (l := PySem.Challenge.rw_onlycarries_k11_faults_of_rows) (n := 63) (k := 17) (x := "script") (CX := fun w => L2N.CX PySem.Challenge.pw_onlycarries_k11_faults_of_rows w) rfl (by decide) (by kernel_rfl) ⟨rfl, by decide, by decide⟩ ?F (fun _ _ _ _ _ z => Py.cx_none z)
    intro w mg fa h Y G hmg0
    obtain ⟨K, KX, c, m, xq⟩ := Y
    have hmg : mg ("law" : PySem.Str) = some (.ref fa) := by
      have e : (HandSHeadRun.topDef (OpenLaw.row PySem.Challenge.rw_onlycarries_k11_faults_of_rows).prog 50).name = ("law" : PySem.Str) := by kernel_rfl
      rw [← e]
      exact hmg0
    have YY : Py.Fs (PySem.Challenge.rw_onlycarries_k11_faults_of_rows).prog w K mg := ⟨⟨c, m, h, KX, G⟩, xq, by kernel_rfl, by kernel_rfl⟩
    have e2 := hmg.symm.trans (YY.glo 62)
    cases e2
    obtain ⟨fd, hb, hF⟩ := Py.law_is (P := (PySem.Challenge.rw_onlycarries_k11_faults_of_rows).prog) YY
    exact ⟨K, fd, _, KX, hb, fun H a ns hl _ hS => Py.sp_law YY.noL (Py.U.law_true ns hl) hS, fun base _ _ => hF base⟩
