import PyProof.Rows.All
import Wide.All
import OpenK.AllK
import Wide.FinOn
import HandS.ForMost
import HandS.WideBits
import KE.BitLaws
import HandS.Exc
import HandS.TryOnly
import HandS.ExcOwn
import HandS.WordsExc
import HandS.WordsList
import HandS.IsInst
import HandS.ExcCtx
import HandS.Hot
import HandS.HotCalls
import HandS.ExcIs
import HandS.ExcField
import HandS.Defaults
import HandS.Flow
import HandS.Style
import HandS.TupAny
import HandS.HeadHook1
import HandS.HeadHook2
import HandS.Dict
import KE.KeyNested
import HandS.Small
import HandS.WordsDict
import KE.KDictKeyed
import PyProof.Rows.SeqRoads
import HandS.CallSlots
import KE.GoesEnum
import HandS.HeadEnd
import HandS.HeadHook3
import HandS.Head3
import HandS.Zip
import HandS.ExcInit
import HandS.Nested
import KE.KExcSuper
import KE.KExcIs
import HandS.TupMul
import HandS.Conv
import HandS.Star
import KE.KDictDisplayH
import OpenK.KOps
import KE.KDictWalk
import KE.KDictZip
import KE.GoesMore
import KE.KStar
import HandS.ExcValue
import HandS.SlotsOwn
import KE.SortData
import HandS.Head0
import HandS.Head1
import HandS.Head2
import PySem.Challenge.RW_onlycarries_k58_breaking_numbers
set_option Elab.async false
set_option linter.all false
set_option maxRecDepth 100000
set_option maxHeartbeats 0
/-! Plain data of a small Python, and what its expressions, statements and defs compute: total Lean functions, no program in sight. -/
namespace Py
open PySem L2
inductive D where
  | non | bl (b : Bool) | int (i : Int) | str (s : String)
  | tup (xs : List D) | lst (xs : List D) | dic (t : Bool) (kvs : List (D × D)) | ins (c : String) (fs : List (String × D)) | drw (q : Bool ⊕ (Nat × List Int))
  deriving Inhabited
/-- what code computes; pick n k: some number i up to n is drawn -/
inductive Res (α : Type) where
  | ok (a : α) | exc (c : String) (fs : List (String × D)) | stuck | pick (n : Nat) (k : Nat → Res α)
def Res.bindR {α β : Type} (f : α → Res β) : Res α → Res β
  | .ok a => f a | .exc c fs => .exc c fs | .stuck => .stuck | .pick n k => .pick n fun i => Res.bindR f (k i)
@[reducible] def Res.bind {α β : Type} (r : Res α) (f : α → Res β) : Res β := match r with
  | .ok a => f a | .exc c fs => .exc c fs | .stuck => .stuck | .pick n k => .pick n fun i => Res.bindR f (k i)
instance : Monad Res := { pure := Res.ok, bind := Res.bind }
@[simp] theorem bind_ok {α β : Type} (a : α) (f : α → Res β) : (Res.ok a >>= f) = f a := rfl
@[simp] theorem bind_exc {α β : Type} (c : String) (fs) (f : α → Res β) : ((Res.exc c fs : Res α) >>= f) = .exc c fs := rfl
@[simp] theorem bind_stuck {α β : Type} (f : α → Res β) : ((Res.stuck : Res α) >>= f) = .stuck := rfl
theorem bindR_eq {α β : Type} (f : α → Res β) (r : Res α) : Res.bindR f r = (r >>= f) := by cases r <;> rfl
@[simp] theorem bind_pick {α β : Type} (n : Nat) (k : Nat → Res α) (f : α → Res β) : (Res.pick n k >>= f) = .pick n fun i => k i >>= f := by
  show Res.pick n (fun i => Res.bindR f (k i)) = _
  congr 1
  funext i
  exact bindR_eq f (k i)
@[simp] theorem pure_ok {α : Type} (a : α) : (pure a : Res α) = .ok a := rfl
def noexc {α : Type} : Res α → Res α
  | .ok a => .ok a | .exc _ _ => .stuck | .stuck => .stuck | .pick n k => .pick n fun i => noexc (k i)
@[simp] theorem noexc_ok {α : Type} (a : α) : noexc (.ok a : Res α) = .ok a := rfl
@[simp] theorem noexc_pick {α : Type} (n : Nat) (k : Nat → Res α) : noexc (.pick n k) = .pick n fun i => noexc (k i) := rfl
/-- what is done of an error -/
def Res.catch_ {α : Type} (h : String → List (String × D) → Res α) : Res α → Res α
  | .ok a => .ok a | .exc c fs => h c fs | .stuck => .stuck | .pick n k => .pick n fun i => Res.catch_ h (k i)
@[simp] theorem catch_ok {α : Type} (h : String → List (String × D) → Res α) (a : α) : Res.catch_ h (.ok a) = .ok a := rfl
@[simp] theorem catch_exc {α : Type} (h : String → List (String × D) → Res α) (c : String) (fs) : Res.catch_ h (.exc c fs) = h c fs := rfl
@[simp] theorem catch_stuck {α : Type} (h : String → List (String × D) → Res α) : Res.catch_ h (.stuck : Res α) = .stuck := rfl
@[simp] theorem catch_pick {α : Type} (h : String → List (String × D) → Res α) (n : Nat) (k : Nat → Res α) : Res.catch_ h (.pick n k) = .pick n fun i => Res.catch_ h (k i) := rfl
def SZ : Nat := 16777216
abbrev Env := List (Option D)
abbrev EM := Env → Res D
abbrev TM := Env → Res Bool
abbrev AM := Env → Res (List D)
inductive Fl where
  | next (e : Env) | ret (d : D) | brk (e : Env) | cnt (e : Env)
abbrev SM := Env → Res Fl
/-! ### data -/
def chk (n : Nat) (d : D) : Res D := if n ≤ SZ then .ok d else .stuck
theorem chk_ok {n : Nat} {d : D} (h : n ≤ SZ) : chk n d = .ok d := if_pos h
/-- no dict or instance within, at most n deep: == walks it -/
def pl : Nat → D → Bool
  | _, .non => true
  | _, .bl _ => true
  | _, .int _ => true
  | _, .str _ => true
  | n + 1, .tup xs => xs.all (pl n)
  | n + 1, .lst xs => xs.all (pl n)
  | _, _ => false
def plain (d : D) : Bool := pl 64 d
/-- no object but a text -/
def flatD : D → Bool
  | .non => true
  | .bl _ => true
  | .int _ => true
  | .str _ => true
  | _ => false
def b2i (b : Bool) : Int := if b then 1 else 0
/-- == of plain data -/
def eqv : D → D → Bool
  | .non, .non => true
  | .bl a, .bl b => a == b
  | .bl a, .int j => b2i a == j
  | .int i, .bl b => i == b2i b
  | .int i, .int j => i == j
  | .str a, .str b => a == b
  | .tup xs, .tup ys => eqvL xs ys
  | .lst xs, .lst ys => eqvL xs ys
  | _, _ => false
where eqvL : List D → List D → Bool
  | [], [] => true
  | x :: xs, y :: ys => eqv x y && eqvL xs ys
  | _, _ => false
inductive Ty where
  | non | bl | int | str | tup | lst | dic | cls (c : String)
  deriving DecidableEq
def isI (t : Ty) : D → Bool
  | .non => decide (t = .non)
  | .bl _ => decide (t = .bl) || decide (t = .int)
  | .int _ => decide (t = .int)
  | .str _ => decide (t = .str)
  | .tup _ => decide (t = .tup)
  | .lst _ => decide (t = .lst)
  | .dic _ _ => decide (t = .dic)
  | .ins c _ => decide (t = .cls c)
  | .drw _ => decide (t = .dic)
/-! ### operators -/
def oadd : D → D → Res D
  | .int i, .int j => .ok (.int (i + j))
  | .str a, .str b => if a.length + b.length ≤ SZ then .ok (.str (a ++ b)) else .stuck
  | .tup a, .tup b => if a.length + b.length ≤ SZ then .ok (.tup (a ++ b)) else .stuck
  | .lst a, .lst b => if a.length + b.length ≤ SZ then .ok (.lst (a ++ b)) else .stuck
  | _, _ => .stuck
def osub : D → D → Res D
  | .int i, .int j => .ok (.int (i - j))
  | _, _ => .stuck
def B64 : Nat := 18446744073709551616
def omul : D → D → Res D
  | .int i, .int j => if i.natAbs < B64 ∨ j.natAbs < B64 then .ok (.int (i * j)) else .stuck
  | _, _ => .stuck
def ofdiv : D → D → Res D
  | .int i, .int j => if 0 < j ∧ j < 1073741824 then .ok (.int (i / j)) else .stuck
  | _, _ => .stuck
def omod : D → D → Res D
  | .int i, .int j => if 0 < j then .ok (.int (i % j)) else .stuck
  | _, _ => .stuck
def opow : D → D → Res D
  | .int i, .int j => if 0 ≤ j ∧ j ≤ 1000000 ∧ i.natAbs < 18446744073709551616 then .ok (.int (i ^ j.toNat)) else .stuck
  | _, _ => .stuck
def oshl : D → D → Res D
  | .int i, .int j => if 0 ≤ j ∧ (Builtin.Int.intBits i : Int) + j ≤ 134217728 then .ok (.int (i * 2 ^ j.toNat)) else .stuck
  | _, _ => .stuck
def oshr : D → D → Res D
  | .int i, .int j => if 0 ≤ j then .ok (.int (i / 2 ^ j.toNat)) else .stuck
  | _, _ => .stuck
def oand : D → D → Res D
  | .int i, .int j => .ok (.int (Builtin.bitAnd i j))
  | _, _ => .stuck
def oxor : D → D → Res D
  | .int i, .int j => .ok (.int (Builtin.bitXor i j))
  | _, _ => .stuck
def oneg : D → Res D
  | .int i => .ok (.int (-i))
  | _ => .stuck
def opt : Option D → Res D
  | some d => .ok d
  | none => .stuck
def tyOf : D → Ty
  | .non => .non | .bl _ => .bl | .int _ => .int | .str _ => .str | .tup _ => .tup | .lst _ => .lst | .dic _ _ => .dic | .ins c _ => .cls c | .drw _ => .dic
/-- an instance's class is among these, so is a class that is asked for -/
def inCs (cs : List String) : Ty → Bool
  | .cls c => cs.contains c
  | .dic => false
  | _ => true
def oisi (cs : List String) (ts : List Ty) (d : D) : Res D := if inCs cs (tyOf d) && ts.all (fun t => inCs cs t && decide (t ≠ .non)) then .ok (.bl (ts.any fun t => isI t d)) else .stuck
def oattr (cs : List String) (f : String) : D → Res D
  | .ins c fs => if cs.contains c then opt (fs.lookup f) else .stuck
  | _ => .stuck
/-- x += y of numbers -/
def oiadd : D → D → Res D
  | .int i, .int j => .ok (.int (i + j))
  | _, _ => .stuck
def olt : D → D → Res D
  | .int i, .int j => .ok (.bl (decide (i < j)))
  | _, _ => .stuck
def ole : D → D → Res D
  | .int i, .int j => .ok (.bl (decide (i ≤ j)))
  | _, _ => .stuck
def ogt : D → D → Res D
  | .int i, .int j => .ok (.bl (decide (j < i)))
  | _, _ => .stuck
def oge : D → D → Res D
  | .int i, .int j => .ok (.bl (decide (j ≤ i)))
  | _, _ => .stuck
def oeq (x y : D) : Res D := if plain x && plain y then .ok (.bl (eqv x y)) else .stuck
def one (x y : D) : Res D := if plain x && plain y then .ok (.bl (!eqv x y)) else .stuck
/-- x in ys -/
def mem (x : D) : List D → Bool
  | [] => false
  | y :: r => eqv y x || mem x r
/-- numbers, None and tuples of such, at most n deep -/
def hk : Nat → D → Bool
  | _, .non => true
  | _, .bl _ => true
  | _, .int _ => true
  | n + 1, .tup xs => xs.all (hk n)
  | _, _ => false
/-- a key of a dict; t: its keys are tuples -/
def keyOk : Bool → D → Bool
  | false, .int _ => true
  | false, .str _ => true
  | true, .tup xs => hk 8 (.tup xs)
  | _, _ => false
def find (k : D) : List (D × D) → Option D
  | [] => none
  | (a, v) :: r => if eqv a k then some v else find k r
/-- d[k] = v -/
def putD (k v : D) : List (D × D) → List (D × D)
  | [] => [(k, v)]
  | (a, x) :: r => if eqv a k then (a, v) :: r else (a, x) :: putD k v r
def oin : D → D → Res D
  | x, .lst ys => if flatD x && ys.all flatD then .ok (.bl (mem x ys)) else .stuck
  | x, .tup ys => if flatD x && ys.all flatD then .ok (.bl (mem x ys)) else .stuck
  | x, .dic t kvs => if keyOk t x then .ok (.bl (find x kvs).isSome) else .stuck
  | _, _ => .stuck
def onotin : D → D → Res D
  | x, .lst ys => if flatD x && ys.all flatD then .ok (.bl (!mem x ys)) else .stuck
  | x, .tup ys => if flatD x && ys.all flatD then .ok (.bl (!mem x ys)) else .stuck
  | x, .dic t kvs => if keyOk t x then .ok (.bl (!(find x kvs).isSome)) else .stuck
  | _, _ => .stuck
def isNon : D → Bool
  | .non => true
  | _ => false
def oisN (x : D) : Res D := .ok (.bl (isNon x))
def onotN (x : D) : Res D := .ok (.bl (!isNon x))
/-- x is True, x is False, x a truth -/
def oisB : D → D → Res D
  | .bl c, .bl b => .ok (.bl (decide (c = b)))
  | _, _ => .stuck
def onotB : D → D → Res D
  | .bl c, .bl b => .ok (.bl (!decide (c = b)))
  | _, _ => .stuck
def truthy : D → Res Bool
  | .non => .ok false
  | .bl b => .ok b
  | .int i => .ok (i != 0)
  | .str s => if s.length ≤ SZ then .ok (s.length != 0) else .stuck
  | .tup xs => .ok (!xs.isEmpty)
  | .lst xs => .ok (!xs.isEmpty)
  | _ => .stuck
def onb : D → Res D
  | .bl k => .ok (.bl (!k))
  | _ => .stuck
/-! ### subscripts -/
def oidx : D → D → Res D
  | .lst xs, .int i => opt (atI xs i)
  | .tup xs, .int i => opt (atI xs i)
  | .str s, .int i => if s.length ≤ SZ then opt ((atI s.toList i).map fun c => .str (String.ofList [c])) else .stuck
  | .dic t kvs, k => if keyOk t k then opt (find k kvs) else .stuck
  | _, _ => .stuck
/-- the items from lo up to hi -/
def cut {α : Type} (xs : List α) (lo hi : Option Int) : List α := (xs.drop (HT.sIx xs.length 0 lo)).take (HT.sIx xs.length xs.length hi - HT.sIx xs.length 0 lo)
def oslc : D → Option Int → Option Int → Res D
  | .lst xs, lo, hi => .ok (.lst (cut xs lo hi))
  | .tup xs, lo, hi => .ok (.tup (cut xs lo hi))
  | .str s, lo, hi => if s.length ≤ SZ then .ok (.str (String.ofList (cut s.toList lo hi))) else .stuck
  | _, _, _ => .stuck
/-! ### a table of the module: texts to numbers -/
/-! ### built-in calls -/
def blen : D → Res D
  | .lst xs => .ok (.int xs.length)
  | .tup xs => .ok (.int xs.length)
  | .str s => if s.length ≤ SZ then .ok (.int s.length) else .stuck
  | .dic _ kvs => .ok (.int kvs.length)
  | _ => .stuck
def bint : D → Res D
  | .int i => .ok (.int i)
  | .bl b => .ok (.int (b2i b))
  | _ => .stuck
def btuple : D → Res D
  | .lst xs => .ok (.tup xs)
  | .tup xs => .ok (.tup xs)
  | _ => .stuck
def blist : D → Res D
  | .lst xs => .ok (.lst xs)
  | .tup xs => .ok (.lst xs)
  | _ => .stuck
def intsOf : List D → Option (List Int)
  | [] => some []
  | .int i :: r => (intsOf r).map (i :: ·)
  | _ :: _ => none
def boolsOf : List D → Option (List Bool)
  | [] => some []
  | .bl i :: r => (boolsOf r).map (i :: ·)
  | _ :: _ => none
def bsum : D → Res D
  | .lst xs => match intsOf xs with | some is => .ok (.int is.sum) | none => .stuck
  | _ => .stuck
def ball : D → Res D
  | .lst xs => match boolsOf xs with | some bs => .ok (.bl (bs.all id)) | none => .stuck
  | _ => .stuck
def bmin2 : D → D → Res D
  | .int i, .int j => .ok (.int (if j < i then j else i))
  | _, _ => .stuck
/-- max and min of a list of numbers -/
def bmaxL : D → Res D
  | .lst xs => match intsOf xs with | some (i :: is) => .ok (.int (is.foldl (fun a b => if b > a then b else a) i)) | _ => .stuck
  | _ => .stuck
def bminL : D → Res D
  | .lst xs => match intsOf xs with | some (i :: is) => .ok (.int (is.foldl (fun a b => if b < a then b else a) i)) | _ => .stuck
  | _ => .stuck
/-! ### expressions -/
def var (i : Nat) : EM := fun e => match e[i]? with | some (some d) => .ok d | _ => .stuck
def cst (d : D) : EM := fun _ => .ok d
def un (f : D → Res D) (a : EM) : EM := fun e => a e >>= f
def bin (f : D → D → Res D) (a b : EM) : EM := fun e => a e >>= fun x => b e >>= fun y => f x y
def argN : AM := fun _ => .ok []
def argC (a : EM) (r : AM) : AM := fun e => a e >>= fun x => r e >>= fun xs => .ok (x :: xs)
def tupE (a : AM) : EM := fun e => a e >>= fun xs => chk xs.length (.tup xs)
def lstE (a : AM) : EM := fun e => a e >>= fun xs => chk xs.length (.lst xs)
/-- {} and {k: v} -/
def dic0 (t : Bool) : EM := fun _ => .ok (.dic t [])
def dic1 (t : Bool) (a b : EM) : EM := fun e => a e >>= fun k => b e >>= fun v => if keyOk t k then .ok (.dic t [(k, v)]) else .stuck
/-- x and y, x or y as values, x a truth -/
def andE (a b : EM) : EM := fun e => a e >>= fun x => match x with | .bl true => b e | .bl false => .ok (.bl false) | _ => .stuck
def orE (a b : EM) : EM := fun e => a e >>= fun x => match x with | .bl false => b e | .bl true => .ok (.bl true) | _ => .stuck
/-- a < b < c -/
def chain (f g : D → D → Res D) (a b c : EM) : EM := fun e => a e >>= fun x => b e >>= fun y => f x y >>= fun z => match z with
  | .bl true => c e >>= fun u => g y u
  | .bl false => .ok (.bl false)
  | _ => .stuck
def tst (a : EM) : TM := fun e => a e >>= truthy
def andT (a b : TM) : TM := fun e => a e >>= fun x => if x then b e else .ok false
def orT (a b : TM) : TM := fun e => a e >>= fun x => if x then .ok true else b e
def notT (a : TM) : TM := fun e => a e >>= fun x => .ok (!x)
def ifE (t : TM) (a b : EM) : EM := fun e => t e >>= fun x => if x then a e else b e
def slc (a : EM) (lo hi : Option EM) : EM := fun e => a e >>= fun x => bnd lo e >>= fun i => bnd hi e >>= fun j => oslc x i j
where bnd : Option EM → Env → Res (Option Int)
  | none, _ => .ok none
  | some m, e => m e >>= fun d => match d with | .int i => .ok (some i) | _ => .stuck
def call (f : List D → Res D) (a : AM) : EM := fun e => a e >>= f
/-- a call that gives back a new list, or what is no list -/
def noNon (d : D) : Res D := match d with | .non => .stuck | d => .ok d
def callF (f : List D → Res D) (a : AM) : EM := fun e => a e >>= fun ds => f ds >>= noNon
/-! what is walked -/
abbrev IM := Env → Res (List D)
def iseq (a : EM) : IM := fun e => a e >>= fun x => match x with | .lst xs => .ok xs | .tup xs => .ok xs | _ => .stuck
def B62 : Nat := 4611686018427387904
def rngL (lo hi : Int) : List D := (List.range (hi - lo).toNat).map fun i => .int (lo + (i : Nat))
def irng1 (a : EM) : IM := fun e => a e >>= fun x => match x with
  | .int n => if n.natAbs < B62 then .ok (rngL 0 n) else .stuck
  | _ => .stuck
def irng2 (a b : EM) : IM := fun e => a e >>= fun x => b e >>= fun y => match x, y with
  | .int m, .int n => if m.natAbs < B62 ∧ n.natAbs < B62 then .ok (rngL m n) else .stuck
  | _, _ => .stuck
def enumL (n : Nat) : List D → List D
  | [] => []
  | d :: r => .tup [.int n, d] :: enumL (n + 1) r
def ienum (a : EM) : IM := fun e => iseq a e >>= fun xs => .ok (enumL 0 xs)
/-- list(range(..)) -/
def lrngE (it : IM) : EM := fun e => it e >>= fun xs => if xs.length ≤ 1000000 then .ok (.lst xs) else .stuck
/-! targets -/
def lift {α : Type} : Option α → Res α
  | some a => .ok a
  | none => .stuck
@[simp] theorem lift_some {α : Type} (a : α) : lift (some a) = .ok a := rfl
@[simp] theorem lift_none {α : Type} : lift (none : Option α) = .stuck := rfl
abbrev GM := D → Env → Option Env
def gnm (i : Nat) : GM := fun d e => some (e.set i (some d))
def gtupL : List GM → List D → Env → Option Env
  | [], [], e => some e
  | g :: gs, d :: ds, e => (g d e).bind (gtupL gs ds)
  | _, _, _ => none
def gtup (gs : List GM) : GM := fun d e => match d with | .tup xs => gtupL gs xs e | _ => none
/-! comprehensions -/
def wipe (e : Env) : List Nat → Env
  | [] => e
  | i :: r => (wipe e r).set i none
def compL (f : D → Res (Option D)) : List D → Res (List D)
  | [] => .ok []
  | x :: xs => f x >>= fun o => compL f xs >>= fun ys => .ok (match o with | some y => y :: ys | none => ys)
def yes : TM := fun _ => .ok true
def compF (vs : List Nat) (g : GM) (t : TM) (elt : EM) (e : Env) (x : D) : Res (Option D) :=
  lift (g x (wipe e vs)) >>= fun e1 => t e1 >>= fun b => if b then elt e1 >>= fun y => .ok (some y) else .ok none
def lcE (it : IM) (vs : List Nat) (g : GM) (t : TM) (elt : EM) : EM := fun e => it e >>= fun xs =>
  noexc (compL (compF vs g t elt e) xs) >>= fun ys => chk xs.length (.lst ys)
/-! ### statements -/
def seq (a b : SM) : SM := fun e => a e >>= fun f => match f with | .next e' => b e' | r => .ok r
def skip : SM := fun e => .ok (.next e)
def asg (g : GM) (m : EM) : SM := fun e => m e >>= fun d => lift (g d e) >>= fun e' => .ok (.next e')
def aug (i : Nat) (f : D → D → Res D) (m : EM) : SM := fun e => var i e >>= fun x => m e >>= fun y => f x y >>= fun z => .ok (.next (e.set i (some z)))
def drop (m : EM) : SM := fun e => m e >>= fun _ => .ok (.next e)
def ret (m : EM) : SM := fun e => m e >>= fun d => .ok (.ret d)
def retN : SM := fun _ => .ok (.ret .non)
def ite (t : TM) (a b : SM) : SM := fun e => t e >>= fun x => if x then a e else b e
def brk : SM := fun e => .ok (.brk e)
def cnt : SM := fun e => .ok (.cnt e)
def forL (body : D → Env → Res Fl) : List D → Env → Res Fl
  | [], e => .ok (.next e)
  | x :: xs, e => body x e >>= fun fl => match fl with
    | .next e' => forL body xs e'
    | .cnt e' => forL body xs e'
    | .brk e' => .ok (.next e')
    | .ret d => .ok (.ret d)
def forB (g : GM) (body : SM) (x : D) (e : Env) : Res Fl := lift (g x e) >>= body
def for_ (it : IM) (g : GM) (body : SM) : SM := fun e => it e >>= fun xs => forL (forB g body) xs e
def FUEL : Nat := 1000000000000
def whileL (t : TM) (body : SM) : Nat → Env → Res Fl
  | 0, _ => .stuck
  | n + 1, e => t e >>= fun b => if b then (body e >>= fun fl => match fl with
      | .next e' => whileL t body n e'
      | .cnt e' => whileL t body n e'
      | .brk e' => .ok (.next e')
      | .ret d => .ok (.ret d)) else .ok (.next e)
def while_ (t : TM) (body : SM) : SM := whileL t body FUEL
/-- a name's own list grows -/
def app (i : Nat) (m : EM) : SM := fun e => var i e >>= fun l => match l with
  | .lst xs => m e >>= fun d => if xs.length < SZ then .ok (.next (e.set i (some (.lst (xs ++ [d]))))) else .stuck
  | _ => .stuck
/-- xs[j] = v of a name's own list or dict -/
def setL (i : Nat) (j m : EM) : SM := fun e => var i e >>= fun l => match l with
  | .lst xs => m e >>= fun d => j e >>= fun k => match k with
    | .int z => match ixN xs.length z with
      | some n => .ok (.next (e.set i (some (.lst (xs.set n d)))))
      | none => .stuck
    | _ => .stuck
  | .dic t kvs => m e >>= fun d => j e >>= fun k => if keyOk t k && decide (kvs.length < SZ) then .ok (.next (e.set i (some (.dic t (putD k d kvs))))) else .stuck
  | _ => .stuck
/-- x.extend(y) of a name's own list -/
def ext (i : Nat) (m : EM) : SM := fun e => var i e >>= fun l => match l with
  | .lst xs => m e >>= fun d => match d with
    | .lst ys => if xs.length + ys.length ≤ SZ then .ok (.next (e.set i (some (.lst (xs ++ ys))))) else .stuck
    | _ => .stuck
  | _ => .stuck
def putF (f : String) (d : D) : List (String × D) → List (String × D)
  | [] => [(f, d)]
  | (g, x) :: r => if g = f then (f, d) :: r else (g, x) :: putF f d r
/-- self.f = v in an __init__ -/
def setF (i : Nat) (cs : List String) (f : String) (m : EM) : SM := fun e => var i e >>= fun o => match o with
  | .ins c fs => if cs.contains c ∧ fs.length < 1000 then m e >>= fun d => .ok (.next (e.set i (some (.ins c (putF f d fs))))) else .stuck
  | _ => .stuck
/-- raise C(..) -/
def rais (c : String) (ns : List String) (a : AM) : SM := fun e => a e >>= fun ds => if ds.length = ns.length then .exc c (ns.zip ds).reverse else .stuck
def thru (m : SM) : SM := fun e => noexc (m e)
/-! ### errors that are caught -/
/-! ### defs -/
def doneF (fl : Fl) : Res D := match fl with
  | .next _ => .ok .non
  | .ret d => .ok d
  | .brk _ => .stuck
  | .cnt _ => .stuck
def done (r : Res Fl) : Res D := r >>= doneF
/-- a def of p parameters and n names -/
def fn (p n : Nat) (body : SM) (ds : List D) : Res D := if ds.length = p then done (body (ds.map some ++ List.replicate (n - p) none)) else .stuck
def madeF (cls : String) (fl : Fl) : Res D := match fl with
  | .next (some (.ins c fs) :: _) => .ok (.ins c fs)
  | _ => .stuck
def made (p n : Nat) (cls : String) (body : SM) (ds : List D) : Res D := if ds.length + 1 = p then
  body ((some (.ins cls []) :: ds.map some) ++ List.replicate (n - p) none) >>= madeF cls else .stuck
end Py
namespace Py
open PySem PySem.Spec PyProof.Rows L2
open He (Fa DefD Tab FnW)
open He
abbrev Frag := PySem.W.Frag
def ca (K : Frag) (c : String) : Addr := He.ga K (Str.ofString c)
def tyNames : List String := ["NoneType", "bool", "int", "str", "tuple", "list", "dict"]
def kitB (K : Frag) (cs : List String) : Bool :=
  cs.all fun c => (He.Fa.cls (Str.ofString c)).ok K
    && (decide (PySem.W.findIn K (.ref (ca K c)) "__class__" = some (some (.builtin "object.__class__")))
    && (decide (PySem.W.specialIn K (.builtin "object.__class__") "__get__" = some (some (.builtin "getset_descriptor.__get__")))
    && (decide (PySem.W.takesIn K (.builtin "object.__class__") = some true)
    && (decide (PySem.W.mroIn K (ca K c) (.type "object") = some true)
    && (cs.all (fun d => decide (PySem.W.kitOne K (.ref (ca K c)) (.ref (ca K d)) = some (decide (c = d))))
    && tyNames.all fun T => decide (PySem.W.kitOne K (.ref (ca K c)) (.type T) = some false) && decide (PySem.W.kitOne K (.type T) (.ref (ca K c)) = some false))))))
def notList (o : Obj) : Bool := match o.cls with
  | .type c => !(decide (c = "list"))
  | _ => true
def noL (K : Frag) : Bool := K.all fun q => notList q.2
def attB (cs : List String) (f : String) (K : Frag) : Bool := cs.all fun c => (Fa.cls (Str.ofString c)).ok K && (Fa.noat (Str.ofString c) (Str.ofString f)).ok K
def kitC (cs : List String) (K : Frag) : Bool := kitB K cs
def aliasB (y x : String) (K : Frag) : Bool := decide (He.ga K (Str.ofString y) = He.ga K (Str.ofString x))
def fnWx (K : Frag) (p : Str × Option Str) : FnW := match K.lookup (He.fAd K p) with
  | some ⟨_, _, .func fd, _⟩ => some (fd.name, fd.qualname, fd.params, fd.body, fd.scope, fd.globals, [], fd.builtins)
  | _ => none
def cloB (file : Str) (c : String) (q : Str) (K : Frag) : Bool := match K.lookup (He.ma K (ca K c) "__init__") with
  | some ⟨_, _, .func fd, _⟩ => (match fd.code, fd.closure with
    | .ref cda, [(y, cc)] => decide (y = ("__class__" : Str)) && (decide (fd.defaults = .none) && (PySem.W.codeIn K (.ref cda) q &&
      ((match K.lookup cc with | some ⟨_, _, .cell (some (.ref D)), _⟩ => decide (D = ca K c) | _ => false) &&
        (match K.lookup cda with | some ⟨_, _, .fields vs, _⟩ => (match (vs[2]? : Option Value) with | some (.str z _) => decide (z = file) | _ => false) | _ => false))))
    | _, _ => false)
  | _ => false
def oexB (c : String) (K : Frag) : Bool := match K.lookup (ca K c) with
  | some ⟨.type "type", _, .cls cd, sl⟩ => (match cd.mro, sl.toList with
    | .ref C' :: bm, [_, _, _, _, some (.builtin n), _] => decide (C' = ca K c) && (decide (n = "ValueError.__new__") && (cd.hasDict && (!cd.hasDel && PySem.HandSPX.refsVE bm)))
    | _, _ => false)
  | _ => false
def errB (file : Str) (c : String) (q : Str) (fs : List String) (K : Frag) : Bool := cloB file c q K && (oexB c K &&
  (decide (PySem.W.findIn K (.ref (ca K c)) "__setattr__" = some (some (.builtin "object.__setattr__"))) && (decide (PySem.W.subIn K (.ref (ca K c)) (.type "BaseException") = some true) &&
  (decide (PySem.W.typeIn K (.ref (ca K c)) = some (.type "type")) && (PySem.W.keepIn K (.ref (ca K c)) &&
  (decide (PySem.W.ks_superIn K (ca K c) (ca K c) "__init__" = some (some (.builtin "ValueError.__init__"))) && (decide (PySem.W.subIn K (.ref (ca K c)) (.type "ValueError") = some true) &&
  (decide (PySem.W.mroIn K (ca K c) (.ref (ca K c)) = some true) && (decide (PySem.W.nsIn K cStatics "thirdparty.any" = some none) &&
  (decide (PySem.W.findIn K (.ref (ca K c)) "__init__" = some (some (.ref (He.ma K (ca K c) "__init__")))) && (decide (PySem.W.typeIn K (.ref (He.ma K (ca K c) "__init__")) = some (.type "function")) &&
  fs.all fun f => decide (PySem.W.findIn K (.ref (ca K c)) (Str.ofString f) = some none))))))))))))
abbrev AlY : Type := AlT × Bool × List FnW
def obsY (more : Frag → Bool) (fa : List Fa) (fn xf : List DefD) (ts : List Tab) (K : Frag) : AlY := (obsT fa fn ts K, more K, xf.map fun d => fnWx K d.at_)
def valY (fn xf : List DefD) (ts : List Tab) (w : World) : AlY := (valT fn ts w, true, xf.map DefD.val)
def obsYG (n : Nat) (more : Frag → Bool) (fa : List Fa) (fn xf : List DefD) (ts : List Tab) (g : Addr → Option Obj) : AlY := obsY more fa fn xf ts (frG g (cStatics :: asD g n))
def hookY (n : Nat) (more : Frag → Bool) (fa : List Fa) (fn xf : List DefD) (ts : List Tab) : PySem.W.Hook where
  α := AlY
  obs := fun s => obsYG n more fa fn xf ts s.heap.get?
  val := fun w => valY fn xf ts w
  says := fun w h => ∃ K : PySem.W.Frag, K.In h ∧ SaysT fa fn ts w K ∧ more K = true ∧ (xf.map fun d => fnWx K d.at_) = xf.map DefD.val
  of := fun w s e => by
    have e1 : obsY more fa fn xf ts (frG s.heap.get? (cStatics :: asD s.heap.get? n)) = valY fn xf ts w := e
    unfold obsY valY at e1
    obtain ⟨e2, e3⟩ := Prod.mk.inj e1
    obtain ⟨e4, e5⟩ := Prod.mk.inj e3
    exact ⟨_, frG_in, e2, e4, e5⟩
  keeps := fun _ _ _ ⟨K, hK, c, m⟩ k => ⟨K, PySem.W.Frag.In.keeps hK k, c, m⟩
end Py
namespace Py
open PySem PySem.Spec PyProof.Rows L2
abbrev CS : List String := ["Machine"]
def top (i : Nat) : Stmt := PySem.Challenge.pw_onlycarries_k58_breaking_numbers.main.body.getD i (.Pass ⟨0, 0, 0, 0⟩)
abbrev st_is_integer : Stmt := top 1
abbrev sc_is_integer : Scope := defScope st_is_integer
abbrev N_is_integer : List Str := ["value"]
abbrev d_is_integer : He.DefD := ⟨("is_integer", none), "is_integer", "is_integer", defArgs st_is_integer, defBody st_is_integer, sc_is_integer, [], []⟩
abbrev st_is_inputs : Stmt := top 3
abbrev sc_is_inputs : Scope := defScope st_is_inputs
abbrev N_is_inputs : List Str := ["value"]
abbrev d_is_inputs : He.DefD := ⟨("is_inputs", none), "is_inputs", "is_inputs", defArgs st_is_inputs, defBody st_is_inputs, sc_is_inputs, [], []⟩
abbrev st_as_tuple : Stmt := top 4
abbrev sc_as_tuple : Scope := defScope st_as_tuple
abbrev N_as_tuple : List Str := ["value"]
abbrev d_as_tuple : He.DefD := ⟨("as_tuple", none), "as_tuple", "as_tuple", defArgs st_as_tuple, defBody st_as_tuple, sc_as_tuple, [], []⟩
abbrev st_is_below : Stmt := top 5
abbrev sc_is_below : Scope := defScope st_is_below
abbrev N_is_below : List Str := ["value", "limit"]
abbrev d_is_below : He.DefD := ⟨("is_below", none), "is_below", "is_below", defArgs st_is_below, defBody st_is_below, sc_is_below, [], []⟩
abbrev st_is_line : Stmt := top 19
abbrev sc_is_line : Scope := defScope st_is_line
abbrev N_is_line : List Str := ["value", "many", "limit", "member"]
abbrev d_is_line : He.DefD := ⟨("is_line", none), "is_line", "is_line", defArgs st_is_line, defBody st_is_line, sc_is_line, [], []⟩
abbrev st_right_nexts : Stmt := top 20
abbrev sc_right_nexts : Scope := defScope st_right_nexts
abbrev N_right_nexts : List Str := ["value", "letters", "lines", "state", "line"]
abbrev d_right_nexts : He.DefD := ⟨("right_nexts", none), "right_nexts", "right_nexts", defArgs st_right_nexts, defBody st_right_nexts, sc_right_nexts, [], []⟩
abbrev st_right_outs : Stmt := top 21
abbrev sc_right_outs : Scope := defScope st_right_outs
abbrev N_right_outs : List Str := ["value", "letters", "states", "lines", "shared", "state"]
abbrev d_right_outs : He.DefD := ⟨("right_outs", none), "right_outs", "right_outs", defArgs st_right_outs, defBody st_right_outs, sc_right_outs, [], []⟩
abbrev st_Machine_init : Stmt := inClass (top 22) 0
abbrev sc_Machine_init : Scope := defScope st_Machine_init
abbrev N_Machine_init : List Str := ["self", "inputs", "nexts", "outs", "letters"]
abbrev d_Machine_init : He.DefD := ⟨("Machine", some "__init__"), "__init__", "Machine.__init__", defArgs st_Machine_init, defBody st_Machine_init, sc_Machine_init, [], []⟩
abbrev st__law_breaks : Stmt := top 41
abbrev sc__law_breaks : Scope := defScope st__law_breaks
abbrev N__law_breaks : List Str := ["nexts", "outs", "reached", "met", "k", "state", "letter", "place", "bit"]
abbrev d__law_breaks : He.DefD := ⟨("_law_breaks", none), "_law_breaks", "_law_breaks", defArgs st__law_breaks, defBody st__law_breaks, sc__law_breaks, [], []⟩
abbrev st__law_pick : Stmt := top 37
abbrev sc__law_pick : Scope := defScope st__law_pick
abbrev N__law_pick : List Str := ["pool", "many", "digit", "cell"]
abbrev d__law_pick : He.DefD := ⟨("_law_pick", none), "_law_pick", "_law_pick", defArgs st__law_pick, defBody st__law_pick, sc__law_pick, [], []⟩
abbrev st__law_any : Stmt := top 38
abbrev sc__law_any : Scope := defScope st__law_any
abbrev N__law_any : List Str := ["pool", "letters", "kind", "many", "told", "other", "nexts", "outs", "state", "letter", "bit"]
abbrev d__law_any : He.DefD := ⟨("_law_any", none), "_law_any", "_law_any", defArgs st__law_any, defBody st__law_any, sc__law_any, [], []⟩
abbrev st__law_chain : Stmt := top 39
abbrev sc__law_chain : Scope := defScope st__law_chain
abbrev N__law_chain : List Str := ["pool", "letters", "many", "ring", "turn", "bit", "other", "nexts", "outs", "state", "leads", "told", "letter"]
abbrev d__law_chain : He.DefD := ⟨("_law_chain", none), "_law_chain", "_law_chain", defArgs st__law_chain, defBody st__law_chain, sc__law_chain, [], []⟩
abbrev st__law_machine : Stmt := top 40
abbrev sc__law_machine : Scope := defScope st__law_machine
abbrev N__law_machine : List Str := ["pool", "letters", "nexts", "outs", "many", "leads", "told", "letter"]
abbrev d__law_machine : He.DefD := ⟨("_law_machine", none), "_law_machine", "_law_machine", defArgs st__law_machine, defBody st__law_machine, sc__law_machine, [], []⟩
abbrev st__law_letter : Stmt := top 42
abbrev sc__law_letter : Scope := defScope st__law_letter
abbrev N__law_letter : List Str := ["numbers", "place", "letter", "i"]
abbrev d__law_letter : He.DefD := ⟨("_law_letter", none), "_law_letter", "_law_letter", defArgs st__law_letter, defBody st__law_letter, sc__law_letter, [], []⟩
abbrev st__law_no_end : Stmt := top 43
abbrev sc__law_no_end : Scope := defScope st__law_no_end
abbrev N__law_no_end : List Str := ["nexts", "outs", "numbers", "state", "reach", "place", "letter", "bit", "k"]
abbrev d__law_no_end : He.DefD := ⟨("_law_no_end", none), "_law_no_end", "_law_no_end", defArgs st__law_no_end, defBody st__law_no_end, sc__law_no_end, [], []⟩
abbrev st__law_right : Stmt := top 44
abbrev sc__law_right : Scope := defScope st__law_right
abbrev N__law_right : List Str := ["answer", "inputs", "nexts", "outs", "number"]
abbrev d__law_right : He.DefD := ⟨("_law_right", none), "_law_right", "_law_right", defArgs st__law_right, defBody st__law_right, sc__law_right, [], []⟩
abbrev st_Machine_len : Stmt := inClass (top 22) 2
abbrev sc_Machine_len : Scope := defScope st_Machine_len
abbrev N_Machine_len : List Str := ["self"]
abbrev d_Machine_len : He.DefD := ⟨("Machine", some "__len__"), "__len__", "Machine.__len__", defArgs st_Machine_len, defBody st_Machine_len, sc_Machine_len, [], []⟩
abbrev st_letters_of : Stmt := top 28
abbrev sc_letters_of : Scope := defScope st_letters_of
abbrev N_letters_of : List Str := ["machine"]
abbrev d_letters_of : He.DefD := ⟨("letters_of", none), "letters_of", "letters_of", defArgs st_letters_of, defBody st_letters_of, sc_letters_of, [], []⟩
abbrev st_first_readings : Stmt := top 30
abbrev sc_first_readings : Scope := defScope st_first_readings
abbrev N_first_readings : List Str := ["machine", "found", "queue", "at", "state", "letter", "led"]
abbrev d_first_readings : He.DefD := ⟨("first_readings", none), "first_readings", "first_readings", defArgs st_first_readings, defBody st_first_readings, sc_first_readings, [], []⟩
abbrev st_numbered : Stmt := top 24
abbrev sc_numbered : Scope := defScope st_numbered
abbrev N_numbered : List Str := ["keys", "seen", "places", "key"]
abbrev d_numbered : He.DefD := ⟨("numbered", none), "numbered", "numbered", defArgs st_numbered, defBody st_numbered, sc_numbered, [], []⟩
abbrev st_state_classes : Stmt := top 25
abbrev sc_state_classes : Scope := defScope st_state_classes
abbrev N_state_classes : List Str := ["machine", "places", "keys", "state", "line", "finer", "goal"]
abbrev d_state_classes : He.DefD := ⟨("state_classes", none), "state_classes", "state_classes", defArgs st_state_classes, defBody st_state_classes, sc_state_classes, [], []⟩
abbrev st_least_machine : Stmt := top 26
abbrev sc_least_machine : Scope := defScope st_least_machine
abbrev N_least_machine : List Str := ["machine", "places", "chosen", "numbers", "nexts", "line", "goal", "state"]
abbrev d_least_machine : He.DefD := ⟨("least_machine", none), "least_machine", "least_machine", defArgs st_least_machine, defBody st_least_machine, sc_least_machine, [], []⟩
abbrev st_numbers_read : Stmt := top 33
abbrev sc_numbers_read : Scope := defScope st_numbers_read
abbrev N_numbers_read : List Str := ["inputs", "reading", "letter", "numbers", "index", "number", "place", "one"]
abbrev d_numbers_read : He.DefD := ⟨("numbers_read", none), "numbers_read", "numbers_read", defArgs st_numbers_read, defBody st_numbers_read, sc_numbers_read, [], []⟩
abbrev st_ring_bits : Stmt := top 32
abbrev sc_ring_bits : Scope := defScope st_ring_bits
abbrev N_ring_bits : List Str := ["machine", "state", "letter", "_", "bits"]
abbrev d_ring_bits : He.DefD := ⟨("ring_bits", none), "ring_bits", "ring_bits", defArgs st_ring_bits, defBody st_ring_bits, sc_ring_bits, [], []⟩
abbrev st_breaking_numbers : Stmt := top 34
abbrev sc_breaking_numbers : Scope := defScope st_breaking_numbers
abbrev N_breaking_numbers : List Str := ["machine", "least", "readings", "state", "letter", "bits"]
abbrev d_breaking_numbers : He.DefD := ⟨("breaking_numbers", none), "breaking_numbers", "breaking_numbers", defArgs st_breaking_numbers, defBody st_breaking_numbers, sc_breaking_numbers, [], []⟩
abbrev st_keeps_integers : Stmt := top 35
abbrev sc_keeps_integers : Scope := defScope st_keeps_integers
abbrev N_keeps_integers : List Str := ["machine"]
abbrev d_keeps_integers : He.DefD := ⟨("keeps_integers", none), "keeps_integers", "keeps_integers", defArgs st_keeps_integers, defBody st_keeps_integers, sc_keeps_integers, [], []⟩
abbrev st__law_ask : Stmt := top 45
abbrev sc__law_ask : Scope := defScope st__law_ask
abbrev N__law_ask : List Str := ["pool", "inputs", "nexts", "outs", "machine", "breaks", "kept", "turn", "answer"]
abbrev d__law_ask : He.DefD := ⟨("_law_ask", none), "_law_ask", "_law_ask", defArgs st__law_ask, defBody st__law_ask, sc__law_ask, [], []⟩
abbrev st_law : Stmt := top 46
abbrev sc_law : Scope := defScope st_law
abbrev N_law : List Str := ["script", "pool", "cell"]
abbrev d_law : He.DefD := ⟨("law", none), "law", "law", defArgs st_law, defBody st_law, sc_law, [], []⟩
abbrev st_InvalidMachine_init : Stmt := inClass (top 13) 0
abbrev sc_InvalidMachine_init : Scope := defScope st_InvalidMachine_init
abbrev N_InvalidMachine_init : List Str := ["self", "part", "place", "__class__"]
abbrev d_InvalidMachine_init : He.DefD := ⟨("InvalidMachine", some "__init__"), "__init__", "InvalidMachine.__init__", defArgs st_InvalidMachine_init, defBody st_InvalidMachine_init, sc_InvalidMachine_init, [], []⟩
abbrev FILE : Str := "/claim/cut.py"
abbrev xfs : List He.DefD := [d_InvalidMachine_init]
abbrev fa : List He.Fa := [.free "range", .free "int", .free "list", .free "tuple", .free "len", .free "isinstance", .free "bool", .free "enumerate", .free "all", .free "min", .free "max", .glo "letters_of", .glo "letters_of_search", .free "sum", .glo "is_integer", .glo "is_inputs", .glo "as_tuple", .glo "is_below", .glo "is_line", .glo "right_nexts", .glo "right_outs", .glo "Machine", .mkr "Machine", .glo "_law_breaks", .glo "_law_pick", .glo "_law_any", .glo "_law_chain", .glo "_law_machine", .glo "_law_letter", .glo "_law_no_end", .glo "_law_right", .cls "Machine", .meth "Machine" "__len__", .glo "first_readings", .glo "numbered", .glo "state_classes", .glo "least_machine", .glo "numbers_read", .glo "ring_bits", .glo "breaking_numbers", .glo "keeps_integers", .glo "_law_ask", .glo "law", .glo "InvalidMachine", .free "super"]
abbrev fns : List He.DefD := [d_is_integer, d_is_inputs, d_as_tuple, d_is_below, d_is_line, d_right_nexts, d_right_outs, d_Machine_init, d__law_breaks, d__law_pick, d__law_any, d__law_chain, d__law_machine, d__law_letter, d__law_no_end, d__law_right, d_Machine_len, d_letters_of, d_first_readings, d_numbered, d_state_classes, d_least_machine, d_numbers_read, d_ring_bits, d_breaking_numbers, d_keeps_integers, d__law_ask, d_law]
abbrev tbs : List He.Tab := []
abbrev mss : List (Frag → Bool) := [attB ["Machine"] "inputs", attB ["Machine"] "nexts", attB ["Machine"] "outs", kitC CS, aliasB "letters_of_search" "letters_of", errB FILE "InvalidMachine" "InvalidMachine.__init__" ["part", "place"]]
abbrev lo0 : List Str := ["is_integer", "is_number", "is_inputs", "as_tuple", "is_below", "is_word", "are_words", "CarryError", "InvalidNumber", "InvalidWords", "InvalidReading", "InvalidMachine", "is_reading", "letters_of", "letters_of_words", "is_line", "right_nexts", "right_outs", "Machine", "numbered", "state_classes", "least_machine", "letters_of_search", "first_readings", "ring_bits", "numbers_read", "breaking_numbers", "keeps_integers", "_law_pick", "_law_any"]
abbrev lo1 : List Str := ["_law_chain", "_law_machine", "_law_breaks", "_law_letter", "_law_no_end", "_law_right", "_law_ask"]
abbrev lo : List Str := lo0 ++ lo1
abbrev R : PySem.W.OpenRow := PySem.W.OpenLaw.row PySem.Challenge.rw_onlycarries_k58_breaking_numbers
abbrev hkY : PySem.W.Hook := hookY 5 (fun K => noL K && mss.all fun m => m K) fa fns xfs tbs
def ob (s : PySem.W.SharedT) : AlY := obsYG 5 (fun K => noL K && mss.all fun m => m K) fa fns xfs tbs (HandSHeadRun.getT s)
end Py
namespace Py
open PySem PySem.Spec PyProof.Rows L2
theorem run0 (w : World) : HandSHeadRun.RunEq R (PySem.W.view R.prog [46]) hkY ob 8000 lo (w.withFollow "special-get-raises" false) := by
  intro os
  kernel_rfl
theorem run1 (w : World) : HandSHeadRun.RunEq R (PySem.W.view R.prog [46]) hkY ob 8000 lo (w.withFollow "special-get-raises" true) := by
  intro os
  kernel_rfl
theorem run (w : World) : HandSHeadRun.RunEq R (PySem.W.view R.prog [46]) hkY ob 8000 lo w := PySem.W.byRow2 "special-get-raises" run0 run1 w
end Py
/-! More of what is computed. -/
namespace Py
/-- len(x): of an instance by its class's own __len__ -/
def lenX (ms : List (String × (List D → Res D))) : D → Res D
  | .ins c fs => match ms.lookup c with
    | some fm => (match fm [.ins c fs] with
      | .ok (.int n) => if 0 ≤ n ∧ n.natAbs < B62 then .ok (.int n) else .stuck
      | _ => .stuck)
    | none => .stuck
  | .lst xs => blen (.lst xs)
  | .tup xs => blen (.tup xs)
  | .str s => blen (.str s)
  | .dic t kvs => blen (.dic t kvs)
  | _ => .stuck
end Py
/-! Draws: a pool that a def changes, what is drawn of it. -/
namespace Py
open PySem L2
/-- a value given back, and what the first name's own list holds then -/
def retB (m : EM) : SM := fun e => m e >>= fun d => var 0 e >>= fun l => .ok (.ret (.tup [d, l]))
def oidxC (x y : D) : Res D := match x with | .drw (.inr q) => oidx (.lst (q.2.map .int)) y | _ => .stuck
def blenC (x : D) : Res D := match x with | .drw (.inr q) => blen (.lst (q.2.map .int)) | _ => .stuck
/-- what a pool holds -/
def DV (k : Bool) (a0 : Nat) (xs : List Int) : List D → Prop := fun ds => match k with
  | false => ∃ p c m : Int, ds = [.drw (.inr (a0, xs)), .int p, .int c, .int m] ∧ 0 ≤ p ∧ 0 ≤ m ∧ m < 2147483647
  | true => ∃ p c j m : Int, ds = [.drw (.inr (a0, xs)), .int p, .int c, .int j, .int m] ∧ 0 ≤ p ∧ 0 ≤ m ∧ m < 2147483647
/-- some number below n -/
def pickF (k : Bool) : List D → Res D
  | [.drw (.inl q), .int n] => if q = k ∧ 0 < n ∧ n < 1073741824 then .pick (n - 1).toNat fun i => .ok (.int i) else .stuck
  | _ => .stuck
/-- the body of a def that draws -/
def Draws (k : Bool) (n : Nat) (b : SM) : Prop := ∀ (a0 : Nat) (xs : List Int) (ds : List D) (many : Int), DV k a0 xs ds → 0 < many → many < 1073741824 →
  ∃ r ds', b ([some (.lst ds), some (.int many)] ++ List.replicate (n - 2) none) = .ok (.ret (.tup [.int r, .lst ds'])) ∧ 0 ≤ r ∧ r < many ∧ DV k a0 xs ds'
def allI : List D → Option (List Int)
  | [] => some []
  | .int i :: r => (allI r).map (i :: ·)
  | _ => none
/-- a new pool -/
def mkpF : D → Res D
  | .lst [.lst xs, .int p, .int _, .int u] => if (allI xs).isSome ∧ 0 ≤ p ∧ 0 ≤ u ∧ u < 2147483647 then .ok (.drw (.inl false)) else .stuck
  | .lst [.lst xs, .int p, .int _, .int _, .int u] => if (allI xs).isSome ∧ 0 ≤ p ∧ 0 ≤ u ∧ u < 2147483647 then .ok (.drw (.inl true)) else .stuck
  | _ => .stuck
def mkp (m : EM) : EM := fun e => m e >>= mkpF
theorem mkpF_inv (d : D) : mkpF d = .stuck ∨ (∃ xs p c u, d = .lst [.lst xs, .int p, .int c, .int u] ∧ ((allI xs).isSome ∧ 0 ≤ p ∧ 0 ≤ u ∧ u < 2147483647) ∧ mkpF d = .ok (.drw (.inl false))) ∨
    ∃ xs p c j u, d = .lst [.lst xs, .int p, .int c, .int j, .int u] ∧ ((allI xs).isSome ∧ 0 ≤ p ∧ 0 ≤ u ∧ u < 2147483647) ∧ mkpF d = .ok (.drw (.inl true)) := by
  unfold mkpF
  split
  · rename_i xs p c u
    by_cases h : (allI xs).isSome ∧ 0 ≤ p ∧ 0 ≤ u ∧ u < 2147483647
    · exact .inr (.inl ⟨xs, p, c, u, rfl, h, if_pos h⟩)
    · exact .inl (if_neg h)
  · rename_i xs p c j u
    by_cases h : (allI xs).isSome ∧ 0 ≤ p ∧ 0 ≤ u ∧ u < 2147483647
    · exact .inr (.inr ⟨xs, p, c, j, u, rfl, h, if_pos h⟩)
    · exact .inl (if_neg h)
  · exact .inl rfl
/-- whatever is drawn: it comes to an end, and P holds of it -/
def Always {α : Type} (P : α → Prop) : Res α → Prop
  | .ok a => P a
  | .pick n k => ∀ i, i ≤ n → Always P (k i)
  | .exc _ _ => False
  | .stuck => False
end Py
/-! How the mirrors are computed: equations, loops, comprehensions. -/
namespace Py
open PySem
/-! ### equations -/
theorem var_eq {i : Nat} {e : Env} {d : D} (h : e[i]? = some (some d)) : var i e = .ok d := by
  unfold var
  rw [h]
@[simp] theorem cst_eq (d : D) (e : Env) : cst d e = .ok d := rfl
@[simp] theorem un_eq (f : D → Res D) (a : EM) (e : Env) : un f a e = (a e >>= f) := rfl
@[simp] theorem bin_eq (f : D → D → Res D) (a b : EM) (e : Env) : bin f a b e = (a e >>= fun x => b e >>= fun y => f x y) := rfl
@[simp] theorem argN_eq (e : Env) : argN e = .ok [] := rfl
@[simp] theorem argC_eq (a : EM) (r : AM) (e : Env) : argC a r e = (a e >>= fun x => r e >>= fun xs => .ok (x :: xs)) := rfl
@[simp] theorem call_eq (f : List D → Res D) (a : AM) (e : Env) : call f a e = (a e >>= f) := rfl
@[simp] theorem tst_eq (a : EM) (e : Env) : tst a e = (a e >>= truthy) := rfl
@[simp] theorem andT_eq (a b : TM) (e : Env) : andT a b e = (a e >>= fun x => if x then b e else .ok false) := rfl
@[simp] theorem orT_eq (a b : TM) (e : Env) : orT a b e = (a e >>= fun x => if x then .ok true else b e) := rfl
@[simp] theorem notT_eq (a : TM) (e : Env) : notT a e = (a e >>= fun x => .ok (!x)) := rfl
@[simp] theorem ifE_eq (t : TM) (a b : EM) (e : Env) : ifE t a b e = (t e >>= fun x => if x then a e else b e) := rfl
@[simp] theorem ite_eq (t : TM) (a b : SM) (e : Env) : ite t a b e = (t e >>= fun x => if x then a e else b e) := rfl
@[simp] theorem skip_eq (e : Env) : skip e = .ok (.next e) := rfl
@[simp] theorem ret_eq (m : EM) (e : Env) : ret m e = (m e >>= fun d => .ok (.ret d)) := rfl
@[simp] theorem asg_eq (g : GM) (m : EM) (e : Env) : asg g m e = (m e >>= fun d => lift (g d e) >>= fun e' => .ok (.next e')) := rfl
@[simp] theorem gnm_eq (i : Nat) (d : D) (e : Env) : gnm i d e = some (e.set i (some d)) := rfl
@[simp] theorem seq_eq (a b : SM) (e : Env) : seq a b e = (a e >>= fun f => match f with | .next e' => b e' | r => .ok r) := rfl
@[simp] theorem forB_eq (g : GM) (b : SM) (x : D) (e : Env) : forB g b x e = (lift (g x e) >>= b) := rfl
@[simp] theorem drop_eq (m : EM) (e : Env) : Py.drop m e = (m e >>= fun _ => .ok (.next e)) := rfl
@[simp] theorem tupE_eq (a : AM) (e : Env) : tupE a e = (a e >>= fun xs => chk xs.length (.tup xs)) := rfl
@[simp] theorem lstE_eq (a : AM) (e : Env) : lstE a e = (a e >>= fun xs => chk xs.length (.lst xs)) := rfl
@[simp] theorem andE_eq (a b : EM) (e : Env) : andE a b e = (a e >>= fun x => match x with | .bl true => b e | .bl false => .ok (.bl false) | _ => .stuck) := rfl
@[simp] theorem orE_eq (a b : EM) (e : Env) : orE a b e = (a e >>= fun x => match x with | .bl false => b e | .bl true => .ok (.bl true) | _ => .stuck) := rfl
@[simp] theorem chain_eq (f g : D → D → Res D) (a b c : EM) (e : Env) : chain f g a b c e = (a e >>= fun x => b e >>= fun y => f x y >>= fun z => match z with
  | .bl true => c e >>= fun u => g y u
  | .bl false => .ok (.bl false)
  | _ => .stuck) := rfl
@[simp] theorem iseq_eq (a : EM) (e : Env) : iseq a e = (a e >>= fun x => match x with | .lst xs => .ok xs | .tup xs => .ok xs | _ => .stuck) := rfl
@[simp] theorem for_eq (it : IM) (g : GM) (b : SM) (e : Env) : for_ it g b e = (it e >>= fun xs => forL (forB g b) xs e) := rfl
@[simp] theorem app_eq (i : Nat) (m : EM) (e : Env) : app i m e = (var i e >>= fun l => match l with
  | .lst xs => m e >>= fun d => if xs.length < SZ then .ok (.next (e.set i (some (.lst (xs ++ [d]))))) else .stuck
  | _ => .stuck) := rfl
@[simp] theorem aug_eq (i : Nat) (f : D → D → Res D) (m : EM) (e : Env) : aug i f m e = (var i e >>= fun x => m e >>= fun y => f x y >>= fun z => .ok (.next (e.set i (some z)))) := rfl
@[simp] theorem done_next (e : Env) : done (.ok (.next e)) = .ok .non := rfl
@[simp] theorem done_ret (d : D) : done (.ok (.ret d)) = .ok d := rfl
@[simp] theorem thru_eq (m : SM) (e : Env) : thru m e = noexc (m e) := rfl
@[simp] theorem brk_eq (e : Env) : brk e = .ok (.brk e) := rfl
@[simp] theorem cnt_eq (e : Env) : cnt e = .ok (.cnt e) := rfl
@[simp] theorem retN_eq (e : Env) : retN e = .ok (.ret .non) := rfl
@[simp] theorem chk_0 {d : D} : chk 0 d = .ok d := chk_ok (by decide)
@[simp] theorem chk_1 {d : D} : chk 1 d = .ok d := chk_ok (by decide)
@[simp] theorem chk_2 {d : D} : chk 2 d = .ok d := chk_ok (by decide)
@[simp] theorem chk_3 {d : D} : chk 3 d = .ok d := chk_ok (by decide)
@[simp] theorem chk_4 {d : D} : chk 4 d = .ok d := chk_ok (by decide)
@[simp] theorem chk_5 {d : D} : chk 5 d = .ok d := chk_ok (by decide)
@[simp] theorem chk_6 {d : D} : chk 6 d = .ok d := chk_ok (by decide)
@[simp] theorem chk_7 {d : D} : chk 7 d = .ok d := chk_ok (by decide)
@[simp] theorem chk_8 {d : D} : chk 8 d = .ok d := chk_ok (by decide)
@[simp] theorem chk_9 {d : D} : chk 9 d = .ok d := chk_ok (by decide)
@[simp] theorem chk_10 {d : D} : chk 10 d = .ok d := chk_ok (by decide)
@[simp] theorem chk_11 {d : D} : chk 11 d = .ok d := chk_ok (by decide)
@[simp] theorem chk_12 {d : D} : chk 12 d = .ok d := chk_ok (by decide)
@[simp] theorem chk_13 {d : D} : chk 13 d = .ok d := chk_ok (by decide)
@[simp] theorem chk_14 {d : D} : chk 14 d = .ok d := chk_ok (by decide)
@[simp] theorem chk_15 {d : D} : chk 15 d = .ok d := chk_ok (by decide)
@[simp] theorem chk_16 {d : D} : chk 16 d = .ok d := chk_ok (by decide)
@[simp] theorem chk_17 {d : D} : chk 17 d = .ok d := chk_ok (by decide)
@[simp] theorem chk_18 {d : D} : chk 18 d = .ok d := chk_ok (by decide)
@[simp] theorem chk_19 {d : D} : chk 19 d = .ok d := chk_ok (by decide)
@[simp] theorem chk_20 {d : D} : chk 20 d = .ok d := chk_ok (by decide)
@[simp] theorem chk_21 {d : D} : chk 21 d = .ok d := chk_ok (by decide)
@[simp] theorem chk_22 {d : D} : chk 22 d = .ok d := chk_ok (by decide)
@[simp] theorem chk_23 {d : D} : chk 23 d = .ok d := chk_ok (by decide)
/-! ### calls of defs -/
theorem fn1 {n : Nat} {b : SM} {x : D} : fn 1 n b [x] = done (b (some x :: List.replicate (n - 1) none)) := if_pos rfl
theorem fn2 {n : Nat} {b : SM} {x y : D} : fn 2 n b [x, y] = done (b (some x :: some y :: List.replicate (n - 2) none)) := if_pos rfl
theorem fn3 {n : Nat} {b : SM} {x y z : D} : fn 3 n b [x, y, z] = done (b (some x :: some y :: some z :: List.replicate (n - 3) none)) := if_pos rfl
theorem fn4 {n : Nat} {b : SM} {x y z u : D} : fn 4 n b [x, y, z, u] = done (b (some x :: some y :: some z :: some u :: List.replicate (n - 4) none)) := if_pos rfl
/-! ### operators on numbers -/
@[simp] theorem oadd_ii (i j : Int) : oadd (.int i) (.int j) = .ok (.int (i + j)) := rfl
@[simp] theorem osub_ii (i j : Int) : osub (.int i) (.int j) = .ok (.int (i - j)) := rfl
theorem omul_ii {i j : Int} (h : i.natAbs < B64 ∨ j.natAbs < B64) : omul (.int i) (.int j) = .ok (.int (i * j)) := if_pos h
theorem omul_l {i j : Int} (h : -18446744073709551616 < i) (h' : i < 18446744073709551616) : omul (.int i) (.int j) = .ok (.int (i * j)) := omul_ii (.inl (by unfold B64; omega))
theorem omul_r {i j : Int} (h : -18446744073709551616 < j) (h' : j < 18446744073709551616) : omul (.int i) (.int j) = .ok (.int (i * j)) := omul_ii (.inr (by unfold B64; omega))
theorem opow18 : opow (.int 10) (.int 18) = .ok (.int 1000000000000000000) := rfl
theorem omod_ii {i j : Int} (h : 0 < j) : omod (.int i) (.int j) = .ok (.int (i % j)) := if_pos h
theorem ofdiv_ii {i j : Int} (h : 0 < j ∧ j < 1073741824) : ofdiv (.int i) (.int j) = .ok (.int (i / j)) := if_pos h
theorem oshl_ii {i j : Int} (h : 0 ≤ j ∧ (Builtin.Int.intBits i : Int) + j ≤ 134217728) : oshl (.int i) (.int j) = .ok (.int (i * 2 ^ j.toNat)) := if_pos h
theorem oshr_ii {i j : Int} (h : 0 ≤ j) : oshr (.int i) (.int j) = .ok (.int (i / 2 ^ j.toNat)) := if_pos h
@[simp] theorem oand_ii (i j : Int) : oand (.int i) (.int j) = .ok (.int (Builtin.bitAnd i j)) := rfl
@[simp] theorem olt_ii (i j : Int) : olt (.int i) (.int j) = .ok (.bl (decide (i < j))) := rfl
@[simp] theorem ole_ii (i j : Int) : ole (.int i) (.int j) = .ok (.bl (decide (i ≤ j))) := rfl
@[simp] theorem ogt_ii (i j : Int) : ogt (.int i) (.int j) = .ok (.bl (decide (j < i))) := rfl
@[simp] theorem oge_ii (i j : Int) : oge (.int i) (.int j) = .ok (.bl (decide (j ≤ i))) := rfl
@[simp] theorem oneg_i (i : Int) : oneg (.int i) = .ok (.int (-i)) := rfl
@[simp] theorem oeq_ii (i j : Int) : oeq (.int i) (.int j) = .ok (.bl (i == j)) := rfl
@[simp] theorem one_ii (i j : Int) : Py.one (.int i) (.int j) = .ok (.bl (!(i == j))) := rfl
@[simp] theorem bint_i (i : Int) : bint (.int i) = .ok (.int i) := rfl
@[simp] theorem bint_b (b : Bool) : bint (.bl b) = .ok (.int (b2i b)) := rfl
@[simp] theorem truthy_b (b : Bool) : truthy (.bl b) = .ok b := rfl
@[simp] theorem truthy_i (i : Int) : truthy (.int i) = .ok (i != 0) := rfl
@[simp] theorem blen_l (xs : List D) : blen (.lst xs) = .ok (.int xs.length) := rfl
@[simp] theorem blen_t (xs : List D) : blen (.tup xs) = .ok (.int xs.length) := rfl
@[simp] theorem btuple_l (xs : List D) : btuple (.lst xs) = .ok (.tup xs) := rfl
@[simp] theorem btuple_t (xs : List D) : btuple (.tup xs) = .ok (.tup xs) := rfl
@[simp] theorem blist_l (xs : List D) : blist (.lst xs) = .ok (.lst xs) := rfl
@[simp] theorem blist_t (xs : List D) : blist (.tup xs) = .ok (.lst xs) := rfl
@[simp] theorem onb_b (b : Bool) : onb (.bl b) = .ok (.bl (!b)) := rfl
/-! ### subscripts -/
theorem ixN_nat {n k : Nat} (h : k < n) : L2.ixN n (k : Int) = some k := by
  unfold L2.ixN
  simp [h]
theorem atI_nat {α : Type} {xs : List α} {k : Nat} (h : k < xs.length) : L2.atI xs (k : Int) = some xs[k] := by
  unfold L2.atI
  rw [ixN_nat h]
  simp [h]
theorem oidx_l {xs : List D} {k : Nat} {d : D} (h : xs[k]? = some d) : oidx (.lst xs) (.int (k : Int)) = .ok d := by
  have hk : k < xs.length := by
    rcases Nat.lt_or_ge k xs.length with h1 | h1
    · exact h1
    · rw [List.getElem?_eq_none h1] at h
      cases h
  unfold oidx
  simp only [atI_nat hk, opt]
  rw [List.getElem?_eq_getElem hk] at h
  rw [Option.some.inj h]
theorem oidx_t {xs : List D} {k : Nat} {d : D} (h : xs[k]? = some d) : oidx (.tup xs) (.int (k : Int)) = .ok d := by
  have q : oidx (.tup xs) (.int (k : Int)) = oidx (.lst xs) (.int (k : Int)) := rfl
  rw [q]
  exact oidx_l h
/-! ### loops -/
theorem rng_map (n : Nat) : rngL 0 (n : Int) = (List.range n).map fun i => D.int ((i : Nat) : Int) := by
  unfold rngL
  rw [Int.sub_zero, Int.toNat_natCast]
  refine List.map_congr_left fun i _ => ?_
  rw [Int.zero_add]
theorem rng_lt {n : Nat} (h : n ≤ 1000) : n < B62 := Nat.lt_of_le_of_lt h (by decide)
theorem irng1_int {a : EM} {e : Env} {i : Int} (h : a e = .ok (.int i)) : irng1 a e = if i.natAbs < B62 then .ok (rngL 0 i) else .stuck := by
  unfold irng1
  simp only [h, bind_ok]
theorem irng1_nat {a : EM} {e : Env} {n : Nat} (h : a e = .ok (.int (n : Int))) (hn : n < B62) : irng1 a e = .ok ((List.range n).map fun i => .int ((i : Nat) : Int)) := by
  rw [← rng_map, irng1_int h]
  exact if_pos hn
theorem forL_inv {b : D → Env → Res Fl} (I : Nat → Env → Prop) : ∀ {xs : List D} {e : Env} (k : Nat), I k e → (∀ i e, (h : i < xs.length) → I (k + i) e → ∃ e', b xs[i] e = .ok (.next e') ∧ I (k + i + 1) e') → ∃ e', forL b xs e = .ok (.next e') ∧ I (k + xs.length) e'
  | [], e, k, h, _ => ⟨e, rfl, h⟩
  | x :: xs, e, k, h, hb => by
    obtain ⟨e1, h1, i1⟩ := hb 0 e (by simp) h
    have h1' : b x e = .ok (.next e1) := h1
    obtain ⟨e2, h2, i2⟩ := forL_inv (xs := xs) I (k + 1) i1 fun i e' hi hI => by
      have hI' : I (k + (i + 1)) e' := by
        rw [show k + (i + 1) = k + 1 + i by omega]
        exact hI
      obtain ⟨e3, h3, i3⟩ := hb (i + 1) e' (by simpa using hi) hI'
      refine ⟨e3, by simpa using h3, ?_⟩
      rw [show k + 1 + i + 1 = k + (i + 1) + 1 by omega]
      exact i3
    refine ⟨e2, ?_, ?_⟩
    · unfold forL
      rw [h1']
      exact h2
    · rw [show k + (x :: xs).length = k + 1 + xs.length by simp; omega]
      exact i2
/-- for each of range(n) -/
theorem forR_inv {b : D → Env → Res Fl} (I : Nat → Env → Prop) {n : Nat} {e : Env} (h0 : I 0 e) (hb : ∀ i e, i < n → I i e → ∃ e', b (.int ((i : Nat) : Int)) e = .ok (.next e') ∧ I (i + 1) e') :
    ∃ e', forL b ((List.range n).map fun i => .int ((i : Nat) : Int)) e = .ok (.next e') ∧ I n e' := by
  have q := forL_inv (b := b) (xs := (List.range n).map fun i => .int ((i : Nat) : Int)) I 0 h0 fun i e' hi hI => by
    have hi' : i < n := by simpa using hi
    have := hb i e' hi' (by simpa using hI)
    simpa using this
  simpa using q
/-! ### comprehensions -/
/-! ### sums, all -/
theorem intsOf_map : ∀ is : List Int, intsOf (is.map .int) = some is
  | [] => rfl
  | i :: is => by
    simp only [List.map_cons, intsOf, intsOf_map is]
    rfl
theorem boolsOf_map : ∀ is : List Bool, boolsOf (is.map .bl) = some is
  | [] => rfl
  | i :: is => by
    simp only [List.map_cons, boolsOf, boolsOf_map is]
    rfl
theorem bsum_ints (is : List Int) : bsum (.lst (is.map .int)) = .ok (.int is.sum) := by
  unfold bsum
  simp only [intsOf_map]
theorem ball_bools (bs : List Bool) : ball (.lst (bs.map .bl)) = .ok (.bl (bs.all id)) := by
  unfold ball
  simp only [boolsOf_map]
/-! ### bits -/
theorem oand1 (i : Int) : oand (.int i) (.int 1) = .ok (.int (i % 2)) := by rw [oand_ii, PyProof.Rows.bitAnd_m1]
theorem oshr_nat (c : Int) (p : Nat) : oshr (.int c) (.int (p : Int)) = .ok (.int (c / 2 ^ p)) := by
  rw [oshr_ii (Int.natCast_nonneg p), Int.toNat_natCast]
theorem intBits_1 : (Builtin.Int.intBits 1 : Int) = 1 := by decide
theorem intBits_0 : (Builtin.Int.intBits 0 : Int) = 0 := by decide
theorem oshl1 (p : Nat) (h : p ≤ 1000) : oshl (.int 1) (.int (p : Int)) = .ok (.int (2 ^ p)) := by
  rw [oshl_ii ⟨Int.natCast_nonneg p, by rw [intBits_1]; omega⟩, Int.toNat_natCast, Int.one_mul]
theorem oshl_bit {b : Int} (hb : b = 0 ∨ b = 1) (p : Nat) (h : p ≤ 1000) : oshl (.int b) (.int (p : Int)) = .ok (.int (b * 2 ^ p)) := by
  rw [oshl_ii ⟨Int.natCast_nonneg p, by rcases hb with e | e <;> subst e <;> (first | rw [intBits_0] | rw [intBits_1]) <;> omega⟩, Int.toNat_natCast]
end Py
/-! The two defs that draw. -/
namespace Py
open PySem
def pickB : SM :=
  (seq (ite (tst (bin ogt (bin oidx (var 0) (cst (.int 2))) (cst (.int 1)))) (seq (asg (gnm 2) (bin omod (un bint (bin oidx (var 0) (cst (.int 2)))) (var 1)))
  (seq (setL 0 (cst (.int 2)) (bin ofdiv (bin oidx (var 0) (cst (.int 2))) (var 1)))
  (retB (var 2)))) skip)
  (seq (asg (gnm 3) (cst (.int 0)))
  (seq (ite (tst (bin olt (bin oidx (var 0) (cst (.int 1))) (un blenC (bin oidx (var 0) (cst (.int 0)))))) (seq (asg (gnm 3) (bin oidxC (bin oidx (var 0) (cst (.int 0))) (bin oidx (var 0) (cst (.int 1)))))
  (setL 0 (cst (.int 1)) (bin oadd (bin oidx (var 0) (cst (.int 1))) (cst (.int 1))))) skip)
  (seq (ite (tst (bin ogt (var 3) (bin oadd (bin opow (cst (.int 10)) (cst (.int 18))) (cst (.int 1))))) (seq (asg (gnm 3) (bin osub (var 3) (bin opow (cst (.int 10)) (cst (.int 18)))))
  (seq (setL 0 (cst (.int 2)) (bin ofdiv (var 3) (var 1)))
  (retB (bin omod (un bint (var 3)) (var 1))))) skip)
  (seq (setL 0 (cst (.int 3)) (bin omod (un bint (bin oadd (bin oadd (bin omul (bin oidx (var 0) (cst (.int 3))) (cst (.int 48271))) (bin omul (var 3) (cst (.int 69621)))) (cst (.int 11)))) (cst (.int 2147483647))))
  (retB (bin omod (bin ofdiv (bin omod (un bint (bin oadd (bin omul (bin oidx (var 0) (cst (.int 3))) (bin oidx (var 0) (cst (.int 3)))) (bin omul (bin oidx (var 0) (cst (.int 3))) (cst (.int 7919))))) (cst (.int 998244353))) (cst (.int 7))) (var 1))))))))
def pickT : SM :=
  (seq (ite (tst (bin ogt (var 3) (bin oadd (bin opow (cst (.int 10)) (cst (.int 18))) (cst (.int 1))))) (seq (asg (gnm 3) (bin osub (var 3) (bin opow (cst (.int 10)) (cst (.int 18)))))
  (seq (setL 0 (cst (.int 2)) (bin ofdiv (var 3) (var 1)))
  (retB (bin omod (un bint (var 3)) (var 1))))) skip)
  (seq (setL 0 (cst (.int 3)) (bin omod (un bint (bin oadd (bin oadd (bin omul (bin oidx (var 0) (cst (.int 3))) (cst (.int 48271))) (bin omul (var 3) (cst (.int 69621)))) (cst (.int 11)))) (cst (.int 2147483647))))
  (retB (bin omod (bin ofdiv (bin omod (un bint (bin oadd (bin omul (bin oidx (var 0) (cst (.int 3))) (bin oidx (var 0) (cst (.int 3)))) (bin omul (bin oidx (var 0) (cst (.int 3))) (cst (.int 7919))))) (cst (.int 998244353))) (cst (.int 7))) (var 1)))))
theorem draws_pick : Draws false 4 pickB := by
  rintro a0 xs _ n ⟨p, c, m, rfl, hp, hm0, hm1⟩ hn0 hn1
  have i0 : ∀ {a b c d : D}, oidx (.lst [a, b, c, d]) (.int 0) = .ok a := rfl
  have i1 : ∀ {a b c d : D}, oidx (.lst [a, b, c, d]) (.int 1) = .ok b := rfl
  have i2 : ∀ {a b c d : D}, oidx (.lst [a, b, c, d]) (.int 2) = .ok c := rfl
  have i3 : ∀ {a b c d : D}, oidx (.lst [a, b, c, d]) (.int 3) = .ok d := rfl
  have x1 : L2.ixN 4 1 = some 1 := rfl
  have x2 : L2.ixN 4 2 = some 2 := rfl
  have x3 : L2.ixN 4 3 = some 3 := rfl
  have hmod : ∀ z : Int, 0 ≤ z % n ∧ z % n < n := fun z => ⟨Int.emod_nonneg _ (by omega), Int.emod_lt_of_pos _ hn0⟩
  have mods : ∀ z : Int, omod (.int z) (.int n) = .ok (.int (z % n)) := fun z => omod_ii hn0
  have divs : ∀ z : Int, ofdiv (.int z) (.int n) = .ok (.int (z / n)) := fun z => ofdiv_ii ⟨hn0, hn1⟩
  have bl : blenC (.drw (.inr (a0, xs))) = .ok (.int (xs.length : Int)) := by simp [blenC]
  have md1 : ∀ z : Int, omod (.int z) (.int 2147483647) = .ok (.int (z % 2147483647)) := fun z => omod_ii (by decide)
  have md2 : ∀ z : Int, omod (.int z) (.int 998244353) = .ok (.int (z % 998244353)) := fun z => omod_ii (by decide)
  have dv7 : ∀ z : Int, ofdiv (.int z) (.int 7) = .ok (.int (z / 7)) := fun z => ofdiv_ii (by decide)
  have ml1 : ∀ z : Int, omul (.int z) (.int 48271) = .ok (.int (z * 48271)) := fun z => omul_r (by decide) (by decide)
  have ml2 : ∀ z : Int, omul (.int z) (.int 69621) = .ok (.int (z * 69621)) := fun z => omul_r (by decide) (by decide)
  have ml3 : ∀ z : Int, omul (.int z) (.int 7919) = .ok (.int (z * 7919)) := fun z => omul_r (by decide) (by decide)
  have ml4 : ∀ z y : Int, omul (.int (z % 2147483647)) (.int y) = .ok (.int (z % 2147483647 * y)) := fun z y => omul_l (by omega) (by omega)
  have mm : ∀ z : Int, 0 ≤ z % 2147483647 ∧ z % 2147483647 < 2147483647 := fun z => by omega
  by_cases hc : 1 < c
  · refine ⟨c % n, _, ?_, (hmod c).1, (hmod c).2, ⟨p, c / n, m, rfl, hp, hm0, hm1⟩⟩
    simp [pickB, pickT, var, setL, retB, i2, hc, x2, mods, divs]
  -- the end of the walk, the cell known
  have tail : ∀ (p' z : Int), 0 ≤ p' → ∃ r ds', (pickT : SM) [some (.lst [.drw (.inr (a0, xs)), .int p', .int c, .int m]), some (.int n), none, some (.int z)] = .ok (.ret (.tup [.int r, .lst ds'])) ∧ 0 ≤ r ∧ r < n ∧ DV false a0 xs ds' := by
    intro p' z hp'
    by_cases hz : 1000000000000000001 < z
    · refine ⟨(z - 1000000000000000000) % n, _, ?_, (hmod _).1, (hmod _).2, ⟨p', (z - 1000000000000000000) / n, m, rfl, hp', hm0, hm1⟩⟩
      simp [pickT, var, setL, retB, opow18, hz, x2, mods, divs]
    · generalize hu : (m * 48271 + z * 69621 + 11) % 2147483647 = u
      have hu1 := mm (m * 48271 + z * 69621 + 11)
      rw [hu] at hu1
      have ml5 : omul (.int u) (.int u) = .ok (.int (u * u)) := omul_l (by omega) (by omega)
      refine ⟨(u * u + u * 7919) % 998244353 / 7 % n, _, ?_, (hmod _).1, (hmod _).2, ⟨p', c, u, rfl, hp', hu1.1, hu1.2⟩⟩
      simp [pickT, var, setL, retB, opow18, hz, x3, i3, mods, divs, ml1, ml2, ml3, md1, hu, ml5, md2, dv7]
  by_cases hq : p < (xs.length : Int)
  · obtain ⟨k, rfl⟩ : ∃ k : Nat, p = (k : Int) := ⟨p.toNat, by omega⟩
    have hk : k < xs.length := by omega
    have cell : oidxC (.drw (.inr (a0, xs))) (.int (k : Int)) = .ok (.int xs[k]) := by
      unfold oidxC
      exact oidx_l (by simp [hk])
    obtain ⟨r, ds', h1, h2⟩ := tail ((k : Int) + 1) xs[k] (by omega)
    refine ⟨r, ds', ?_, h2⟩
    rw [← h1]
    simp [pickB, pickT, var, setL, i0, i1, i2, hc, hq, x1, bl, cell]
  · obtain ⟨r, ds', h1, h2⟩ := tail p 0 hp
    refine ⟨r, ds', ?_, h2⟩
    rw [← h1]
    simp [pickB, pickT, var, setL, i0, i1, i2, hc, hq, x1, bl]
end Py
/-! What plain data look like in the abstract heap, and the readings that say: this code computes that. -/
namespace Py
open PySem L2
theorem ofS_inj {a b : String} (h : Str.ofString a = Str.ofString b) : a = b := by
  rw [Str.ofString_eq_toList, Str.ofString_eq_toList] at h
  have h1 : a.toList.map Char.toNat = b.toList.map Char.toNat := by
    have := congrArg (fun s : Str => s.cps.toList) h
    simpa using this
  have h2 : a.toList = b.toList := by
    have hc : ∀ x y : Char, x.toNat = y.toNat → x = y := fun x y e => by
      apply Char.ext
      apply UInt32.toNat_inj.mp
      exact e
    generalize a.toList = l at h1
    generalize b.toList = m at h1
    induction l generalizing m with
    | nil => cases m with
      | nil => rfl
      | cons _ _ => simp at h1
    | cons x l ih => cases m with
      | nil => simp at h1
      | cons y m =>
        simp only [List.map_cons, List.cons.injEq] at h1
        rw [hc _ _ h1.1, ih m h1.2]
  exact String.ext_iff.mpr h2
/-- an address set to be avoided -/
abbrev AS := Addr → Prop
/-- a key of a dict of numbers and texts -/
def kvK : D → Option Key
  | .int i => some (.inl i)
  | .str s => some (.inr (Str.ofString s))
  | _ => none
mutual
/-- a key, nested -/
def nk : D → Option NestedKey
  | .non => some .none
  | .bl b => some (.num (b2i b))
  | .int i => some (.num i)
  | .tup xs => (nkL xs).map .tup
  | _ => none
def nkL : List D → Option (List NestedKey)
  | [] => some []
  | d :: r => match nk d, nkL r with | some k, some ks => some (k :: ks) | _, _ => none
end
def entW (w : World) (x : NestedKey × Addr × Value) : DictEntry := ⟨x.1.hash w, .ref x.2.1, x.2.2⟩
/-- a dict whose keys are tuples -/
def dicT (a : Addr) (es : List (NestedKey × Addr × V)) : HO := .ext fun h => (a == sysModules) = false ∧ es.length ≤ sizeLine ∧ ∃ xs : List (NestedKey × Addr × Value), Paired (fun p q => p.1 = q.1 ∧ p.2.1 = q.2.1 ∧ RelV p.2.2 q.2.2) es xs ∧
  ∃ o en ep, h.get? a = some o ∧ o.ExactDict ∧ o.data = .dict en ep ∧ (∀ w : World, en.toList = xs.map (entW w)) ∧ (xs.map (·.1)).Nodup
/-- a pool of draws: the script's numbers at a0, a place in them, what is left of a cell, the mixer (k: and a count) -/
def PoolV (k : Bool) (a0 : Addr) : List V → Prop := fun vs => match k with
  | false => ∃ p c m : Int, vs = [.ref a0, .int p, .int c, .int m] ∧ 0 ≤ p ∧ 0 ≤ m ∧ m < 2147483647
  | true => ∃ p c j m : Int, vs = [.ref a0, .int p, .int c, .int j, .int m] ∧ 0 ≤ p ∧ 0 ≤ m ∧ m < 2147483647
def poolO (k : Bool) (a a0 : Addr) : HO := .ext fun h => ∃ (vs : List V) (its : List Value) (n : Nat), PoolV k a0 vs ∧ Vals vs its ∧ h.get? a = some { cls := .type "list", data := .seq its.toArray n }
mutual
def Rep (K : Frag) (A : AS) (H : Hp) : D → V → Prop
  | .non, v => v = .non
  | .bl b, v => v = .bl b
  | .int i, v => v = .int i
  | .str s, v => v = .str (Str.ofString s)
  | .tup xs, v => ∃ a vs, v = .ref a ∧ SqT K H a vs ∧ RepL K A H xs vs
  | .lst xs, v => ∃ a vs, v = .ref a ∧ ¬ A a ∧ Rd H a (.lst vs) ∧ RepL K A H xs vs
  | .dic t kvs, v => ∃ a, v = .ref a ∧ ¬ A a ∧ ((t = false ∧ ∃ ks, H a = some (.dK ks) ∧ RepK K A H kvs ks) ∨ (t = true ∧ ∃ es, H a = some (dicT a es) ∧ RepT K A H kvs es))
  | .ins c fs, v => ∃ a dx fvs, v = .ref a ∧ ¬ A a ∧ H a = some (.ins (ca K c) dx fvs) ∧ RepF K A H fs fvs
  | .drw (.inr q), v => v = .ref q.1 ∧ ¬ A q.1 ∧ Rd H q.1 (.lst (q.2.map V.int))
  | .drw (.inl k), v => ∃ a a0 xs, v = .ref a ∧ ¬ A a ∧ H a = some (poolO k a a0) ∧ ¬ A a0 ∧ Rd H a0 (.lst ((xs : List Int).map V.int))
def RepL (K : Frag) (A : AS) (H : Hp) : List D → List V → Prop
  | [], vs => vs = []
  | d :: ds, vs => ∃ v r, vs = v :: r ∧ Rep K A H d v ∧ RepL K A H ds r
def RepF (K : Frag) (A : AS) (H : Hp) : List (String × D) → List (Str × V) → Prop
  | [], fs => fs = []
  | (n, d) :: r, fs => ∃ v q, fs = (Str.ofString n, v) :: q ∧ Rep K A H d v ∧ RepF K A H r q
def RepK (K : Frag) (A : AS) (H : Hp) : List (D × D) → List (Key × V) → Prop
  | [], ks => ks = []
  | (k, d) :: r, ks => ∃ c v q, ks = (c, v) :: q ∧ kvK k = some c ∧ Rep K A H d v ∧ RepK K A H r q
def RepT (K : Frag) (A : AS) (H : Hp) : List (D × D) → List (NestedKey × Addr × V) → Prop
  | [], es => es = []
  | (k, d) :: r, es => ∃ c b v q, es = (c, b, v) :: q ∧ (nk k = some c ∧ keyOk true k = true) ∧ Rep K A H k (.ref b) ∧ Rep K A H d v ∧ RepT K A H r q
end
/-- what a dict at a holds -/
def DicAt (K : Frag) (A : AS) (H : Hp) (a : Addr) (t : Bool) (kvs : List (D × D)) : Prop := (t = false ∧ ∃ ks, H a = some (.dK ks) ∧ RepK K A H kvs ks) ∨ (t = true ∧ ∃ es, H a = some (dicT a es) ∧ RepT K A H kvs es)
theorem rep_dic {K : Frag} {A : AS} {H : Hp} {t : Bool} {kvs : List (D × D)} {v : V} : Rep K A H (.dic t kvs) v ↔ ∃ a, v = .ref a ∧ ¬ A a ∧ DicAt K A H a t kvs := by
  simp only [Rep]
  exact Iff.rfl
/-- a tuple never changes -/
def still : HO → Prop
  | .tup _ => True
  | .frz _ (.tup _) => True
  | _ => False
/-- from H to H': what is not in A is kept, the new A' has of the old heap only A -/
structure Mv (A : AS) (H : Hp) (A' : AS) (H' : Hp) : Prop where
  av : ∀ a, A' a → A a ∨ H a = none
  kp : ∀ a o, H a = some o → (¬ A a ∨ still o) → H' a = some o
theorem Mv.same {A : AS} {H H' : Hp} (s : Same H H') : Mv A H A H' := ⟨fun _ h => .inl h, fun a o e _ => s a o e⟩
theorem Mv.less {A A' : AS} {H : Hp} (s : ∀ a, A' a → A a) : Mv A H A' H := ⟨fun a h => .inl (s a h), fun _ _ e _ => e⟩
theorem Mv.refl {A : AS} {H : Hp} : Mv A H A H := .same (Same.refl H)
theorem Mv.trans {A A1 A2 : AS} {H H1 H2 : Hp} (h : Mv A H A1 H1) (k : Mv A1 H1 A2 H2) : Mv A H A2 H2 := by
  refine ⟨fun a x => ?_, fun a o e q => ?_⟩
  · rcases k.av a x with y | y
    · exact h.av a y
    · cases e : H a with
      | none => exact .inr rfl
      | some o =>
        by_cases hA : A a
        · exact .inl hA
        · rw [h.kp a o e (.inl hA)] at y
          cases y
  · refine k.kp a o (h.kp a o e q) ?_
    rcases q with q | q
    · refine .inl fun y => ?_
      rcases h.av a y with z | z
      · exact q z
      · rw [e] at z
        cases z
    · exact .inr q
theorem Rd.move {A A' : AS} {H H' : Hp} {a : Addr} {u : HO} (m : Mv A H A' H') (h : Rd H a u) (n : ¬ A a) : Rd H' a u ∧ ¬ A' a := by
  have key : ∀ o, H a = some o → H' a = some o ∧ ¬ A' a := fun o e => ⟨m.kp a o e (.inl n), fun x => by
    rcases m.av a x with y | y
    · exact n y
    · rw [e] at y
      cases y⟩
  rcases h with h | ⟨o, h⟩
  · exact ⟨.inl (key _ h).1, (key _ h).2⟩
  · exact ⟨.inr ⟨o, (key _ h).1⟩, (key _ h).2⟩
theorem SqT.move {K : Frag} {A A' : AS} {H H' : Hp} {a : Addr} {vs : List V} (m : Mv A H A' H') (h : SqT K H a vs) : SqT K H' a vs := by
  rcases h with (h | ⟨o, h⟩) | h
  · exact .inl (.inl (m.kp a _ h (.inr trivial)))
  · exact .inl (.inr ⟨o, m.kp a _ h (.inr trivial)⟩)
  · exact .inr h
mutual
theorem Rep.move {K : Frag} {A A' : AS} {H H' : Hp} (m : Mv A H A' H') : ∀ (d : D) (v : V), Rep K A H d v → Rep K A' H' d v
  | .non, _, h => h
  | .bl _, _, h => h
  | .int _, _, h => h
  | .str _, _, h => h
  | .tup xs, v, h => by
    simp only [Rep] at h ⊢
    obtain ⟨a, vs, e, q, r⟩ := h
    exact ⟨a, vs, e, SqT.move m q, RepL.move m xs vs r⟩
  | .lst xs, v, h => by
    simp only [Rep] at h ⊢
    obtain ⟨a, vs, e, n, q, r⟩ := h
    exact ⟨a, vs, e, (Rd.move m q n).2, (Rd.move m q n).1, RepL.move m xs vs r⟩
  | .dic t kvs, v, h => by
    simp only [Rep] at h ⊢
    obtain ⟨a, e, n, ⟨ht, ks, q, r⟩ | ⟨ht, es, q, r⟩⟩ := h
    · have z := Rd.move m (.inl q) n
      exact ⟨a, e, z.2, .inl ⟨ht, ks, m.kp a _ q (.inl n), RepK.move m kvs ks r⟩⟩
    · have z := Rd.move m (.inl q) n
      exact ⟨a, e, z.2, .inr ⟨ht, es, m.kp a _ q (.inl n), RepT.move m kvs es r⟩⟩
  | .ins c fs, v, h => by
    simp only [Rep] at h ⊢
    obtain ⟨a, dx, fvs, e, n, q, r⟩ := h
    have z : Rd H' a _ ∧ ¬ A' a := Rd.move m (.inl q) n
    refine ⟨a, dx, fvs, e, z.2, ?_, RepF.move m fs fvs r⟩
    exact m.kp a _ q (.inl n)
  | .drw (.inr q), v, h => by
    simp only [Rep] at h ⊢
    exact ⟨h.1, (Rd.move m h.2.2 h.2.1).2, (Rd.move m h.2.2 h.2.1).1⟩
  | .drw (.inl k), v, h => by
    simp only [Rep] at h ⊢
    obtain ⟨a, a0, xs, e, n, q, n0, r⟩ := h
    have z : Rd H' a _ ∧ ¬ A' a := Rd.move m (.inl q) n
    exact ⟨a, a0, xs, e, z.2, m.kp a _ q (.inl n), (Rd.move m r n0).2, (Rd.move m r n0).1⟩
theorem RepL.move {K : Frag} {A A' : AS} {H H' : Hp} (m : Mv A H A' H') : ∀ (ds : List D) (vs : List V), RepL K A H ds vs → RepL K A' H' ds vs
  | [], vs, h => by
    simp only [RepL] at h ⊢
    exact h
  | d :: ds, vs, h => by
    simp only [RepL] at h ⊢
    obtain ⟨v, r, e, h1, h2⟩ := h
    exact ⟨v, r, e, Rep.move m d v h1, RepL.move m ds r h2⟩
theorem RepF.move {K : Frag} {A A' : AS} {H H' : Hp} (m : Mv A H A' H') : ∀ (ds : List (String × D)) (vs : List (Str × V)), RepF K A H ds vs → RepF K A' H' ds vs
  | [], vs, h => by
    simp only [RepF] at h ⊢
    exact h
  | (n, d) :: ds, vs, h => by
    simp only [RepF] at h ⊢
    obtain ⟨v, r, e, h1, h2⟩ := h
    exact ⟨v, r, e, Rep.move m d v h1, RepF.move m ds r h2⟩
theorem RepK.move {K : Frag} {A A' : AS} {H H' : Hp} (m : Mv A H A' H') : ∀ (ds : List (D × D)) (vs : List (Key × V)), RepK K A H ds vs → RepK K A' H' ds vs
  | [], vs, h => by
    simp only [RepK] at h ⊢
    exact h
  | (k, d) :: ds, vs, h => by
    simp only [RepK] at h ⊢
    obtain ⟨c, v, r, e, h0, h1, h2⟩ := h
    exact ⟨c, v, r, e, h0, Rep.move m d v h1, RepK.move m ds r h2⟩
theorem RepT.move {K : Frag} {A A' : AS} {H H' : Hp} (m : Mv A H A' H') : ∀ (ds : List (D × D)) (vs : List (NestedKey × Addr × V)), RepT K A H ds vs → RepT K A' H' ds vs
  | [], vs, h => by
    simp only [RepT] at h ⊢
    exact h
  | (k, d) :: ds, vs, h => by
    simp only [RepT] at h ⊢
    obtain ⟨c, b, v, r, e, h0, h1, h2, h3⟩ := h
    exact ⟨c, b, v, r, e, h0, Rep.move m k _ h1, Rep.move m d v h2, RepT.move m ds r h3⟩
end
theorem DicAt.move {K : Frag} {A A' : AS} {H H' : Hp} {a : Addr} {t : Bool} {kvs : List (D × D)} (m : Mv A H A' H') (k : H' a = H a) (h : DicAt K A H a t kvs) : DicAt K A' H' a t kvs := by
  rcases h with ⟨ht, ks, q, r⟩ | ⟨ht, es, q, r⟩
  · exact .inl ⟨ht, ks, k.trans q, RepK.move m kvs ks r⟩
  · exact .inr ⟨ht, es, k.trans q, RepT.move m kvs es r⟩
theorem RepL.length {K : Frag} {A : AS} {H : Hp} : ∀ {ds : List D} {vs : List V}, RepL K A H ds vs → ds.length = vs.length
  | [], vs, h => by
    simp only [RepL] at h
    subst h
    rfl
  | d :: ds, vs, h => by
    simp only [RepL] at h
    obtain ⟨v, r, rfl, h1, h2⟩ := h
    simp [RepL.length h2]
theorem RepL.get {K : Frag} {A : AS} {H : Hp} : ∀ {ds : List D} {vs : List V} {i : Nat} {d : D}, RepL K A H ds vs → ds[i]? = some d → ∃ v, vs[i]? = some v ∧ Rep K A H d v
  | [], vs, i, d, h, e => by simp at e
  | d0 :: ds, vs, i, d, h, e => by
    simp only [RepL] at h
    obtain ⟨v, r, rfl, h1, h2⟩ := h
    cases i with
    | zero =>
      simp at e
      subst e
      exact ⟨v, rfl, h1⟩
    | succ i =>
      obtain ⟨w, q1, q2⟩ := RepL.get (i := i) h2 (by simpa using e)
      exact ⟨w, by simpa using q1, q2⟩
theorem RepL.append {K : Frag} {A : AS} {H : Hp} : ∀ {ds es : List D} {vs ws : List V}, RepL K A H ds vs → RepL K A H es ws → RepL K A H (ds ++ es) (vs ++ ws)
  | [], es, vs, ws, h, k => by
    simp only [RepL] at h
    subst h
    exact k
  | d :: ds, es, vs, ws, h, k => by
    simp only [RepL] at h
    obtain ⟨v, r, rfl, h1, h2⟩ := h
    simp only [List.cons_append, RepL]
    exact ⟨v, r ++ ws, rfl, h1, RepL.append h2 k⟩
theorem RepL.drop {K : Frag} {A : AS} {H : Hp} : ∀ {ds : List D} {vs : List V} (n : Nat), RepL K A H ds vs → RepL K A H (ds.drop n) (vs.drop n)
  | ds, vs, 0, h => h
  | [], vs, n + 1, h => by
    simp only [RepL] at h
    subst h
    simp [RepL]
  | d :: ds, vs, n + 1, h => by
    simp only [RepL] at h
    obtain ⟨v, r, rfl, h1, h2⟩ := h
    exact RepL.drop n h2
theorem RepL.take {K : Frag} {A : AS} {H : Hp} : ∀ {ds : List D} {vs : List V} (n : Nat), RepL K A H ds vs → RepL K A H (ds.take n) (vs.take n)
  | ds, vs, 0, h => by simp [RepL]
  | [], vs, n + 1, h => by
    simp only [RepL] at h
    subst h
    simp [RepL]
  | d :: ds, vs, n + 1, h => by
    simp only [RepL] at h
    obtain ⟨v, r, rfl, h1, h2⟩ := h
    simp only [List.take_succ_cons, RepL]
    exact ⟨v, _, rfl, h1, RepL.take n h2⟩
theorem RepL.set {K : Frag} {A : AS} {H : Hp} {d : D} {v : V} (hd : Rep K A H d v) : ∀ {ds : List D} {vs : List V} (n : Nat), RepL K A H ds vs → RepL K A H (ds.set n d) (vs.set n v)
  | [], vs, n, h => by
    simp only [RepL] at h
    subst h
    simp [RepL]
  | d0 :: ds, vs, 0, h => by
    simp only [RepL] at h
    obtain ⟨w, r, rfl, h1, h2⟩ := h
    simp only [List.set_cons_zero, RepL]
    exact ⟨v, r, rfl, hd, h2⟩
  | d0 :: ds, vs, n + 1, h => by
    simp only [RepL] at h
    obtain ⟨w, r, rfl, h1, h2⟩ := h
    simp only [List.set_cons_succ, RepL]
    exact ⟨w, _, rfl, h1, RepL.set hd n h2⟩
theorem RepL.one {K : Frag} {A : AS} {H : Hp} {d : D} {v : V} (h : Rep K A H d v) : RepL K A H [d] [v] := by
  simp only [RepL]
  exact ⟨v, [], rfl, h, rfl⟩
theorem RepF.look {K : Frag} {A : AS} {H : Hp} {f : String} : ∀ {fs : List (String × D)} {vs : List (Str × V)}, RepF K A H fs vs →
    match fs.lookup f with | some d => ∃ v, vs.lookup (Str.ofString f) = some v ∧ Rep K A H d v | none => vs.lookup (Str.ofString f) = none
  | [], vs, h => by
    simp only [RepF] at h
    subst h
    rfl
  | (n, d) :: fs, vs, h => by
    simp only [RepF] at h
    obtain ⟨v, r, rfl, h1, h2⟩ := h
    by_cases e : f = n
    · subst e
      simp only [List.lookup_cons, beq_self_eq_true]
      exact ⟨v, rfl, h1⟩
    · have e2 : (Str.ofString f == Str.ofString n) = false := beq_eq_false_iff_ne.mpr fun q => e (ofS_inj q)
      have e3 : (f == n) = false := beq_eq_false_iff_ne.mpr e
      simp only [List.lookup_cons, e2, e3]
      exact RepF.look h2
theorem RepF.put {K : Frag} {A : AS} {H : Hp} {f : String} {d : D} {v : V} (hd : Rep K A H d v) : ∀ {fs : List (String × D)} {vs : List (Str × V)}, RepF K A H fs vs → RepF K A H (putF f d fs) (L2.putF (Str.ofString f) v vs)
  | [], vs, h => by
    simp only [RepF] at h
    subst h
    simp only [putF, L2.putF, RepF]
    exact ⟨v, [], rfl, hd, rfl⟩
  | (n, d0) :: fs, vs, h => by
    simp only [RepF] at h
    obtain ⟨w, r, rfl, h1, h2⟩ := h
    by_cases e : n = f
    · subst e
      simp only [putF, L2.putF, if_pos, RepF]
      exact ⟨v, r, rfl, hd, h2⟩
    · have e2 : ¬ Str.ofString n = Str.ofString f := fun q => e (ofS_inj q)
      simp only [putF, L2.putF, if_neg e, if_neg e2, RepF]
      exact ⟨w, _, rfl, h1, RepF.put hd h2⟩
theorem RepF.length {K : Frag} {A : AS} {H : Hp} : ∀ {fs : List (String × D)} {vs : List (Str × V)}, RepF K A H fs vs → fs.length = vs.length
  | [], vs, h => by
    simp only [RepF] at h
    subst h
    rfl
  | (n, d) :: fs, vs, h => by
    simp only [RepF] at h
    obtain ⟨v, r, rfl, h1, h2⟩ := h
    simp [RepF.length h2]
/-! ### the frame -/
/-- what a name's own object at a holds -/
def OwnAt (K : Frag) (A : AS) (H : Hp) (a : Addr) : D → Prop
  | .lst ds => ∃ vs, H a = some (.lst vs) ∧ RepL K A H ds vs
  | .ins c fs => ∃ dx fvs, H a = some (.ins (ca K c) dx fvs) ∧ RepF K A H fs fvs
  | .dic t kvs => DicAt K A H a t kvs
  | _ => False
theorem OwnAt.move {K : Frag} {A A' : AS} {H H' : Hp} {a : Addr} {d : D} (m : Mv A H A' H') (k : H' a = H a) (h : OwnAt K A H a d) : OwnAt K A' H' a d := by
  cases d with
  | lst ds =>
    obtain ⟨vs, e, r⟩ := h
    exact ⟨vs, k.trans e, RepL.move m _ _ r⟩
  | ins c fs =>
    obtain ⟨dx, fvs, e, r⟩ := h
    exact ⟨dx, fvs, k.trans e, RepF.move m _ _ r⟩
  | dic t kvs => exact DicAt.move m k h
  | _ => exact h
theorem OwnAt.obj {K : Frag} {A : AS} {H : Hp} {a : Addr} {d : D} (h : OwnAt K A H a d) : ∃ u, H a = some u ∧ ¬ still u ∧ ∀ fvs, u ≠ .xd fvs := by
  cases d with
  | lst ds =>
    obtain ⟨vs, e, _⟩ := h
    exact ⟨_, e, fun z => z, fun _ z => nomatch z⟩
  | ins c fs =>
    obtain ⟨dx, fvs, e, _⟩ := h
    exact ⟨_, e, fun z => z, fun _ z => nomatch z⟩
  | dic t kvs =>
    rcases h with ⟨_, ks, e, _⟩ | ⟨_, es, e, _⟩
    · exact ⟨_, e, fun z => z, fun _ z => nomatch z⟩
    · exact ⟨_, e, fun z => z, fun _ z => nomatch z⟩
  | _ => exact h.elim
/-- what is owned is a value for those who leave it alone -/
theorem OwnAt.rep {K : Frag} {A A' : AS} {H : Hp} {a : Addr} {d : D} (m : Mv A H A' H) (n : ¬ A' a) (h : OwnAt K A H a d) : Rep K A' H d (.ref a) := by
  cases d with
  | lst ds =>
    obtain ⟨vs, e, r⟩ := h
    simp only [Rep]
    exact ⟨a, vs, rfl, n, .inl e, RepL.move m _ _ r⟩
  | ins c fs =>
    obtain ⟨dx, fvs, e, r⟩ := h
    simp only [Rep]
    exact ⟨a, dx, fvs, rfl, n, e, RepF.move m _ _ r⟩
  | dic t kvs => exact rep_dic.mpr ⟨a, rfl, n, DicAt.move m rfl h⟩
  | _ => exact h.elim
abbrev OW := Nat → Option Addr
def AO (A : AS) (O : OW) : AS := fun a => A a ∨ ∃ i, O i = some a
/-- the heap at the entry; the object that slot 0 owns throughout (an __init__'s self) -/
structure Base where
  hp : Hp
  px : Option Addr
/-- what is known of a caught error: the slot of its name, where it stands, where its dict stands, what that holds -/
structure Xh where
  i : Nat
  a : Addr
  da : Addr
  fs : List (String × D)
/-- which names own; in an except suite: the caught error -/
structure Ow where
  f : Nat → Bool
  x : Option Xh
instance : CoeFun Ow (fun _ => Nat → Bool) := ⟨Ow.f⟩
@[reducible] def Ow.off (o : Ow) : Ow := ⟨fun i => match o.x with | some q => i == q.i | none => false, o.x⟩
structure XAt (K : Frag) (A : AS) (H : Hp) (σ : L2.St) (e : Env) (f : Nat → Bool) (q : Xh) : Prop where
  own : f q.i = true
  slot : σ[q.i]? = some (some (.ref q.a))
  no : ∀ d, e[q.i]? ≠ some (some d)
  xd : ∃ fvs, H q.da = some (.xd fvs) ∧ RepF K A H q.fs fvs
def XFact (K : Frag) (A : AS) (H : Hp) (σ : L2.St) (e : Env) (o : Ow) : Prop := ∀ q, o.x = some q → XAt K A H σ e o.f q
theorem XFact.none {K : Frag} {A : AS} {H : Hp} {σ : L2.St} {e : Env} {o : Ow} (h : o.x = none) : XFact K A H σ e o := fun q z => by
  rw [h] at z
  cases z
theorem XFact.move {K : Frag} {A A' : AS} {H H' : Hp} {σ σ' : L2.St} {e e' : Env} {o : Ow} (m : Mv A H A' H') (k : ∀ da fvs, H da = some (.xd fvs) → H' da = some (.xd fvs)) (s : ∀ i, o i = true → (∀ d, e[i]? ≠ some (some d)) → σ'[i]? = σ[i]? ∧ ∀ d, e'[i]? ≠ some (some d))
    (h : XFact K A H σ e o) : XFact K A' H' σ' e' o := fun q hq => by
  obtain ⟨h1, h2, h3, fvs, h4, h5⟩ := h q hq
  obtain ⟨s1, s2⟩ := s q.i h1 h3
  exact ⟨h1, s1.trans h2, s2, fvs, k _ _ h4, RepF.move m _ _ h5⟩
theorem XFact.heap {K : Frag} {A A' : AS} {H H' : Hp} {σ : L2.St} {e : Env} {o : Ow} (m : Mv A H A' H') (k : ∀ da fvs, H da = some (.xd fvs) → H' da = some (.xd fvs)) (h : XFact K A H σ e o) : XFact K A' H' σ e o := h.move m k fun i _ n => ⟨rfl, n⟩
/-- the frame's slots hold these data; ow: the names that own what they hold; H0: the heap at the entry -/
structure ER (K : Frag) (A : AS) (H0 : Base) (ow : Ow) (O : OW) (σ : L2.St) (H : Hp) (e : Env) : Prop where
  len : σ.length = e.length
  a0 : ∀ a, A a → H a ≠ none
  same : Same H0.hp H
  vals : ∀ i d, e[i]? = some (some d) → ow i = false → ∃ v, σ[i]? = some (some v) ∧ Rep K (AO A O) H d v
  owns : ∀ i d, e[i]? = some (some d) → ow i = true → ∃ a, O i = some a ∧ σ[i]? = some (some (.ref a)) ∧ OwnAt K (AO A O) H a d
  fresh : ∀ i a, O i = some a → H0.hp a = none ∧ H a ≠ none ∧ ¬ A a
  inj : ∀ i j a, O i = some a → O j = some a → i = j
  pin : ∀ a, H0.px = some a → O 0 = some a
  exq : XFact K (AO A O) H σ e ow
section
variable {K : Frag} {A : AS} {H0 : Base} {ow : Ow} {O : OW} {σ : L2.St} {H H' : Hp} {e : Env}
theorem ne_none {H H' : Hp} {a : Addr} (s : Same H H') (h : H a ≠ none) : H' a ≠ none := by
  cases q : H a with
  | none => exact absurd q h
  | some o =>
    rw [s a o q]
    exact fun z => nomatch z
theorem ER.there (R : ER K A H0 ow O σ H e) : ∀ a, AO A O a → H a ≠ none := fun a h => by
  rcases h with h | ⟨i, h⟩
  · exact R.a0 a h
  · exact (R.fresh i a h).2.1
theorem ER.to (R : ER K A H0 ow O σ H e) (s : Same H H') : ER K A H0 ow O σ H' e :=
  ⟨R.len, fun a h => ne_none s (R.a0 a h), R.same.trans s, fun i d h1 h2 => let ⟨v, q, r⟩ := R.vals i d h1 h2; ⟨v, q, Rep.move (Mv.same s) d v r⟩,
    fun i d h1 h2 => let ⟨a, q, q2, r⟩ := R.owns i d h1 h2; ⟨a, q, q2, r.move (Mv.same s) (by
      cases z : H a with
      | none => exact absurd z (R.fresh i a q).2.1
      | some o => exact s a o z)⟩,
    fun i a h => ⟨(R.fresh i a h).1, ne_none s (R.fresh i a h).2.1, (R.fresh i a h).2.2⟩, R.inj, R.pin, R.exq.heap (Mv.same s) fun da fvs e => s _ _ e⟩
/-- a name takes a value -/
theorem ER.set (R : ER K A H0 ow O σ H e) {i : Nat} {d : D} {v : V} (hi : ow i = false) (r : Rep K (AO A O) H d v) : ER K A H0 ow O (σ.set i (some v)) H (e.set i (some d)) := by
  refine ⟨by simp [R.len], R.a0, R.same, fun j d' h1 h2 => ?_, fun j d' h1 h2 => ?_, R.fresh, R.inj, R.pin, R.exq.move Mv.refl (fun _ _ e => e) fun j hj n => ?_⟩
  rotate_right
  · have hne : i ≠ j := fun z => by
      rw [z, hj] at hi
      cases hi
    rw [List.getElem?_set_ne hne, List.getElem?_set_ne hne]
    exact ⟨rfl, n⟩
  · by_cases hj : i = j
    · subst hj
      have hl : i < e.length := by
        have := (List.getElem?_eq_some_iff.mp h1).1
        simpa using this
      rw [List.getElem?_set_self hl] at h1
      cases h1
      exact ⟨v, List.getElem?_set_self (by rw [R.len]; exact hl), r⟩
    · rw [List.getElem?_set_ne hj] at h1
      rw [List.getElem?_set_ne hj]
      exact R.vals j d' h1 h2
  · have hj : i ≠ j := fun z => by
      subst z
      rw [hi] at h2
      cases h2
    rw [List.getElem?_set_ne hj] at h1
    rw [List.getElem?_set_ne hj]
    exact R.owns j d' h1 h2
/-- names forgotten -/
theorem ER.sub {e' : Env} {σ' : L2.St} (R : ER K A H0 ow O σ H e) (hl : σ'.length = e'.length) (h : ∀ (i : Nat) (d : D), e'[i]? = some (some d) → e[i]? = some (some d) ∧ σ'[i]? = σ[i]?) (hx : ∀ q : Xh, ow.x = some q → σ'[q.i]? = σ[q.i]?) : ER K A H0 ow O σ' H e' :=
  ⟨hl, R.a0, R.same, fun i d h1 h2 => by rw [(h i d h1).2]; exact R.vals i d (h i d h1).1 h2, fun i d h1 h2 => by rw [(h i d h1).2]; exact R.owns i d (h i d h1).1 h2, R.fresh, R.inj, R.pin, fun q hq => by
    obtain ⟨h1, h2, h3, h4⟩ := R.exq q hq
    exact ⟨h1, (hx q hq).trans h2, fun d z => h3 d (h _ d z).1, h4⟩⟩
end
theorem wipe_env (vs : List Nat) (e : Env) (i : Nat) (d : D) (h : (wipe e vs)[i]? = some (some d)) : e[i]? = some (some d) ∧ i ∉ vs := by
  induction vs with
  | nil => exact ⟨h, by simp⟩
  | cons j r ih =>
    unfold wipe at h
    by_cases hj : j = i
    · subst hj
      by_cases hl : j < (wipe e r).length
      · rw [List.getElem?_set_self hl] at h
        cases h
      · rw [List.getElem?_eq_none (by simp; omega)] at h
        cases h
    · rw [List.getElem?_set_ne hj] at h
      obtain ⟨a, b⟩ := ih h
      exact ⟨a, by simp [b, Ne.symm hj]⟩
theorem wipe_len (vs : List Nat) (e : Env) : (wipe e vs).length = e.length := by
  induction vs with
  | nil => rfl
  | cons j r ih => unfold wipe; simp [ih]
theorem ER.wipe {K : Frag} {A : AS} {H0 : Base} {ow : Ow} {O : OW} {σ : L2.St} {H : Hp} {e : Env} (R : ER K A H0 ow O σ H e) (vs : List Nat) (hx : ow.x = none) : ER K A H0 ow O (L2.wipe σ vs) H (Py.wipe e vs) :=
  R.sub (by rw [L2.wipe_length, wipe_len, R.len]) (fun i d h => ⟨(wipe_env vs e i d h).1, L2.wipe_out (wipe_env vs e i d h).2⟩) fun q hq => by
    rw [hx] at hq
    cases hq
/-! ### readings -/
def Out {α : Type} (r : Res α) (good : α → Prop) (bad : String → List (String × D) → Prop) : Prop := match r with
  | .ok a => good a
  | .exc c fs => bad c fs
  | .stuck => False
  | .pick n k => ∀ i, i ≤ n → Out (k i) good bad
/-- a may come of it -/
def Res.leaf {α : Type} (a : α) : Res α → Prop
  | .ok b => b = a
  | .exc _ _ => False
  | .stuck => False
  | .pick n k => ∃ i, i ≤ n ∧ Res.leaf a (k i)
theorem Out.bind {α β : Type} {r : Res α} {f : α → Res β} {good : β → Prop} {bad : String → List (String × D) → Prop} (h : Out (r >>= f) good bad) : Out r (fun a => Out (f a) good bad) bad := by
  induction r with
  | ok a => exact h
  | exc c fs => exact h
  | stuck => exact h
  | pick n k ih =>
    rw [bind_pick] at h
    exact fun i hi => ih i (h i hi)
theorem Out.imp {α : Type} {r : Res α} {good good' : α → Prop} {bad bad' : String → List (String × D) → Prop} (h : Out r good bad) (hg : ∀ a, Res.leaf a r → good a → good' a) (hb : ∀ c fs, bad c fs → bad' c fs) : Out r good' bad' := by
  induction r with
  | ok a => exact hg a rfl h
  | exc c fs => exact hb c fs h
  | stuck => exact h
  | pick n k ih => exact fun i hi => ih i (h i hi) fun a l => hg a ⟨i, hi, l⟩
theorem Out.good {α : Type} {r : Res α} {good good' : α → Prop} {bad : String → List (String × D) → Prop} (h : Out r good bad) (hg : ∀ a, good a → good' a) : Out r good' bad := h.imp (fun a _ => hg a) fun _ _ x => x
theorem Out.noexc {α : Type} {r : Res α} {good : α → Prop} {bad bad' : String → List (String × D) → Prop} (h : Out (noexc r) good bad) : Out r good bad' := by
  induction r with
  | ok a => exact h
  | exc c fs => exact h.elim
  | stuck => exact h
  | pick n k ih => exact fun i hi => ih i (h i hi)
abbrev Nev : String → List (String × D) → Prop := fun _ _ => False
theorem Out.void {α : Type} {r : Res α} (h : Out r (fun _ => False) Nev) : False := by
  induction r with
  | ok a => exact h
  | exc c fs => exact h
  | stuck => exact h
  | pick n k ih => exact ih 0 (h 0 (Nat.zero_le _))
/-- what an exception must show that leaves an expression -/
def badE (K : Frag) (W : WX) (A : AS) (O : OW) (σ : L2.St) (H : Hp) (c : String) (fs : List (String × D)) : Prop :=
  ∀ da H' fvs, Same H H' → H' da = some (.xd fvs) → RepF K (AO A O) H' fs fvs → W (.ref (ca K c)) (some da) σ H'
theorem badE.to {K : Frag} {W : WX} {A : AS} {O : OW} {σ : L2.St} {H H1 : Hp} (s : Same H H1) {c : String} {fs : List (String × D)} (h : badE K W A O σ H c fs) : badE K W A O σ H1 c fs := fun da H' fvs s' => h da H' fvs (s.trans s')
theorem Out.to {K : Frag} {W : WX} {A : AS} {O : OW} {σ : L2.St} {H H1 : Hp} {α : Type} {r : Res α} {good : α → Prop} (s : Same H H1) (h : Out r good (badE K W A O σ H)) : Out r good (badE K W A O σ H1) := h.imp (fun _ _ x => x) fun _ _ x => x.to s
/-- a value that may be a name's own list or object: what is within it is clean -/
def RepW (K : Frag) (A : AS) (H : Hp) : D → V → Prop
  | .lst xs, v => ∃ a vs, v = .ref a ∧ Rd H a (.lst vs) ∧ RepL K A H xs vs
  | .ins c fs, v => ∃ a dx fvs, v = .ref a ∧ H a = some (.ins (ca K c) dx fvs) ∧ RepF K A H fs fvs
  | .dic t kvs, v => ∃ a, v = .ref a ∧ DicAt K A H a t kvs
  | d, v => Rep K A H d v
theorem RepW.of {K : Frag} {A : AS} {H : Hp} {d : D} {v : V} (h : Rep K A H d v) : RepW K A H d v := by
  cases d with
  | lst xs =>
    simp only [Rep] at h
    obtain ⟨a, vs, e, _, q, r⟩ := h
    exact ⟨a, vs, e, q, r⟩
  | ins c fs =>
    simp only [Rep] at h
    obtain ⟨a, dx, fvs, e, _, q, r⟩ := h
    exact ⟨a, dx, fvs, e, q, r⟩
  | dic t kvs =>
    obtain ⟨a, e, _, q⟩ := rep_dic.mp h
    exact ⟨a, e, q⟩
  | _ => exact h
theorem RepW.none {K : Frag} {A : AS} {H : Hp} {d : D} {v : V} (h : RepW K A H d v) : Rep K (fun _ => False) H d v := by
  have z : Mv A H (fun _ => False) H := Mv.less fun _ x => x.elim
  cases d with
  | lst xs =>
    obtain ⟨a, vs, e, q, r⟩ := h
    simp only [Rep]
    exact ⟨a, vs, e, fun x => x, q, RepL.move z _ _ r⟩
  | ins c fs =>
    obtain ⟨a, dx, fvs, e, q, r⟩ := h
    simp only [Rep]
    exact ⟨a, dx, fvs, e, fun x => x, q, RepF.move z _ _ r⟩
  | dic t kvs =>
    obtain ⟨a, e, q⟩ := h
    exact rep_dic.mpr ⟨a, e, fun x => x, q.move z rfl⟩
  | _ => exact Rep.move z _ _ h
/-- a relation between data and values, under what is to be avoided -/
abbrev RR := AS → Hp → D → V → Prop
/-- an expression that computes m -/
def tG (R : RR) (K : Frag) (W : WX) (ow : Ow) (m : EM) : TE := fun σ H Q => ∃ A H0 O e, ER K A H0 ow O σ H e ∧
  Out (m e) (fun d => ∀ v H', Same H H' → R (AO A O) H' d v → Q v H') (badE K W A O σ H)
/-- .. clean -/
abbrev tE (K : Frag) (W : WX) (ow : Ow) (m : EM) : TE := tG (Rep K) K W ow m
/-- .. to be read only -/
abbrev tW (K : Frag) (W : WX) (ow : Ow) (m : EM) : TE := tG (RepW K) K W ow m
/-- .. a new list -/
def tF (K : Frag) (W : WX) (ow : Ow) (m : EM) : TE := fun σ H Q => ∃ A H0 O e, ER K A H0 ow O σ H e ∧
  Out (m e) (fun d => ∀ a H', H a = none → Same H H' → OwnAt K (fun b => AO A O b ∨ b = a) H' a d → Q (.ref a) H') (badE K W A O σ H)
def tT (K : Frag) (W : WX) (ow : Ow) (m : TM) : TT := fun σ H Q => ∃ A H0 O e, ER K A H0 ow O σ H e ∧
  Out (m e) (fun b => ∀ H', Same H H' → Q b H') (badE K W A O σ H)
def tA (R : RR) (K : Frag) (W : WX) (ow : Ow) (m : AM) : TA := fun σ H Q => ∃ A H0 O e, ER K A H0 ow O σ H e ∧
  Out (m e) (fun ds => ∀ vs H', Same H H' → Paired (fun v d => R (AO A O) H' d v) vs ds → Q vs H') (badE K W A O σ H)
section
variable {X : Cx} {K : Frag} {W : WX} {A : AS} {H0 : Base} {ow : Ow}
theorem PE.of {e : Expr} {t t' : TE} (h : PE X e t) (k : ∀ σ H Q, t' σ H Q → t σ H Q) : PE X e t' := ⟨fun pins s σ H Q I q => h.run pins s σ H Q I (k σ H Q q)⟩
theorem PT.of {e : Expr} {t t' : TT} (h : PT X e t) (k : ∀ σ H Q, t' σ H Q → t σ H Q) : PT X e t' := ⟨fun pins s σ H Q I q => h.run pins s σ H Q I (k σ H Q q)⟩
theorem PW.of {e : Expr} {t t' : TT} (h : PW X e t) (k : ∀ σ H Q, t' σ H Q → t σ H Q) : PW X e t' := ⟨fun wh pins s σ H Q I q => h.run wh pins s σ H Q I (k σ H Q q)⟩
theorem PA.of {e : List Expr} {t t' : TA} (h : PA X e t) (k : ∀ σ H Q, t' σ H Q → t σ H Q) : PA X e t' := ⟨fun pos pins s σ H Q I q => h.run pos pins s σ H Q I (k σ H Q q)⟩
theorem PS.of {e : Stmt} {t t' : TS} (h : PS X e t) (k : ∀ D σ H, t' D σ H → t D σ H) : PS X e t' := ⟨fun pins s σ H D I q => h.run pins s σ H D I (k D σ H q)⟩
theorem PSs.of {e : List Stmt} {t t' : TS} (h : PSs X e t) (k : ∀ D σ H, t' D σ H → t D σ H) : PSs X e t' := ⟨fun pins s σ H D I q => h.run pins s σ H D I (k D σ H q)⟩
theorem w_of {e : Expr} {m : EM} (h : PE X e (tE K W ow m)) : PE X e (tW K W ow m) := PE.of h fun σ H Q ⟨A, H0, O, en, R, q⟩ => ⟨A, H0, O, en, R, q.good fun d k v H' s r => k v H' s (RepW.of r)⟩
theorem e_of {e : Expr} {m : EM} (h : PE X e (tF K W ow m)) : PE X e (tE K W ow m) := PE.of h fun σ H Q ⟨A, H0, O, en, R, q⟩ => ⟨A, H0, O, en, R, q.good fun d k a H' n s r => by
  refine k (.ref a) H' s ?_
  have na : ¬ AO A O a := fun z => R.there a z n
  have mv : Mv (fun b => AO A O b ∨ b = a) H' (AO A O) H' := Mv.less fun b x => .inl x
  exact r.rep mv na⟩
/-! names, constants -/
theorem x_var {i : Nat} {e : Expr} (h : PE X e (tVar i)) (hi : ow i = false) : PE X e (tE K W ow (var i)) := PE.of h fun σ H Q ⟨A, H0, O, en, R, q⟩ => by
  unfold var at q
  split at q
  · rename_i d hd
    obtain ⟨v, e1, r⟩ := R.vals i d hd hi
    exact ⟨v, e1, q v H (Same.refl H) r⟩
  · exact q.elim
/-- a name's own list, read -/
theorem x_own {i : Nat} {e : Expr} (h : PE X e (tVar i)) : PE X e (tW K W ow (var i)) := PE.of h fun σ H Q ⟨A, H0, O, en, R, q⟩ => by
  unfold var at q
  split at q
  · rename_i d hd
    cases hi : ow i with
    | false =>
      obtain ⟨v, e1, r⟩ := R.vals i d hd hi
      exact ⟨v, e1, q v H (Same.refl H) (RepW.of r)⟩
    | true =>
      obtain ⟨a, _, e1, r⟩ := R.owns i d hd hi
      refine ⟨.ref a, e1, q _ H (Same.refl H) ?_⟩
      cases d with
      | lst ds =>
        obtain ⟨vs, e2, r⟩ := r
        exact ⟨a, vs, rfl, .inl e2, r⟩
      | ins c fs =>
        obtain ⟨dx, fvs, e2, r⟩ := r
        exact ⟨a, dx, fvs, rfl, e2, r⟩
      | dic t kvs => exact ⟨a, rfl, r⟩
      | _ => exact r.elim
  · exact q.elim
/-- data that need no object -/
def flat : D → Option V
  | .non => some .non
  | .bl b => some (.bl b)
  | .int i => some (.int i)
  | .str s => some (.str (Str.ofString s))
  | _ => none
theorem flat_rep {d : D} {v : V} (h : flat d = some v) (A : AS) (H : Hp) : Rep K A H d v := by
  cases d <;> simp only [flat, Option.some.injEq] at h <;> first | exact h.symm | cases h
theorem x_cst {e : Expr} {d : D} {v : V} (h : PE X e (tC v)) (hf : flat d = some v) : PE X e (tE K W ow (cst d)) := PE.of h fun σ H Q ⟨A, H0, O, en, R, q⟩ => q v H (Same.refl H) (flat_rep hf _ _)
theorem x_int {i j pos} : PE X (.Constant (.int i) j pos) (tE K W ow (cst (.int i))) := x_cst pe_int rfl
theorem x_bl {i j pos} : PE X (.Constant (.bool i) j pos) (tE K W ow (cst (.bl i))) := x_cst pe_bl rfl
theorem x_non {j pos} : PE X (.Constant .none j pos) (tE K W ow (cst .non)) := x_cst pe_non rfl
theorem x_str {s : String} {j pos} : PE X (.Constant (.str (Str.ofString s)) j pos) (tE K W ow (cst (.str s))) := x_cst pe_str rfl
end
end Py
/-! Dicts: their keys in the heap, look-ups, stores. -/
namespace Py
open PySem L2
/-! ### keys -/
mutual
theorem hk_nk : ∀ (n : Nat) (d : D), hk n d = true → ∃ k, nk d = some k ∧ k.depth ≤ n
  | n, .non, _ => ⟨.none, by simp [nk], by simp [NestedKey.depth]⟩
  | n, .bl b, _ => ⟨.num (b2i b), by simp [nk], by simp [NestedKey.depth]⟩
  | n, .int i, _ => ⟨.num i, by simp [nk], by simp [NestedKey.depth]⟩
  | n + 1, .tup xs, h => by
    simp only [hk] at h
    obtain ⟨ks, h1, h2⟩ := hk_nkL n xs h
    exact ⟨.tup ks, by simp [nk, h1], by simp only [NestedKey.depth]; omega⟩
  | 0, .tup xs, h => by simp [hk] at h
  | n, .str _, h => by cases n <;> simp [hk] at h
  | n, .lst _, h => by cases n <;> simp [hk] at h
  | n, .dic _ _, h => by cases n <;> simp [hk] at h
  | n, .ins _ _, h => by cases n <;> simp [hk] at h
  | n, .drw _, h => by cases n <;> simp [hk] at h
theorem hk_nkL : ∀ (n : Nat) (ds : List D), ds.all (hk n) = true → ∃ ks, nkL ds = some ks ∧ NestedKey.depthAll ks ≤ n
  | n, [], _ => ⟨[], by simp [nkL], by simp [NestedKey.depthAll]⟩
  | n, d :: ds, h => by
    simp only [List.all_cons, Bool.and_eq_true] at h
    obtain ⟨k, h1, h2⟩ := hk_nk n d h.1
    obtain ⟨ks, h3, h4⟩ := hk_nkL n ds h.2
    exact ⟨k :: ks, by simp [nkL, h1, h3], by simp only [NestedKey.depthAll]; omega⟩
end
theorem nkL_cons {d : D} {ds : List D} {ks : List NestedKey} (h : nkL (d :: ds) = some ks) : ∃ k r, nk d = some k ∧ nkL ds = some r ∧ ks = k :: r := by
  simp only [nkL] at h
  split at h
  · rename_i k r e1 e2
    exact ⟨k, r, e1, e2, (Option.some.inj h).symm⟩
  · cases h
mutual
theorem nk_hash (w w' : World) : ∀ (d : D) (k : NestedKey), nk d = some k → k.hash w = k.hash w'
  | .non, k, h => by simp only [nk, Option.some.injEq] at h; subst h; simp [NestedKey.hash]
  | .bl b, k, h => by simp only [nk, Option.some.injEq] at h; subst h; simp [NestedKey.hash]
  | .int b, k, h => by simp only [nk, Option.some.injEq] at h; subst h; simp [NestedKey.hash]
  | .tup xs, k, h => by
    simp only [nk, Option.map_eq_some_iff] at h
    obtain ⟨ks, h1, rfl⟩ := h
    simp only [NestedKey.hash]
    rw [nk_hashL w w' xs ks h1]
  | .str _, k, h => by simp [nk] at h
  | .lst _, k, h => by simp [nk] at h
  | .dic _ _, k, h => by simp [nk] at h
  | .ins _ _, k, h => by simp [nk] at h
  | .drw _, k, h => by simp [nk] at h
theorem nk_hashL (w w' : World) : ∀ (ds : List D) (ks : List NestedKey), nkL ds = some ks → NestedKey.hashes w ks = NestedKey.hashes w' ks
  | [], ks, h => by simp only [nkL, Option.some.injEq] at h; subst h; simp [NestedKey.hashes]
  | d :: ds, ks, h => by
    obtain ⟨k, r, h1, h2, rfl⟩ := nkL_cons h
    simp only [NestedKey.hashes]
    rw [nk_hash w w' d k h1, nk_hashL w w' ds r h2]
end
mutual
theorem nk_eqv : ∀ (d e : D) (k j : NestedKey), nk d = some k → nk e = some j → eqv d e = NestedKey.beq k j
  | .non, e, k, j, h, h' => by
    simp only [nk, Option.some.injEq] at h
    subst h
    cases e <;> simp only [nk, Option.some.injEq, reduceCtorEq, Option.map_eq_some_iff] at h' <;> first | (subst h'; simp [eqv, NestedKey.beq]) | (obtain ⟨_, _, rfl⟩ := h'; simp [eqv, NestedKey.beq])
  | .bl b, e, k, j, h, h' => by
    simp only [nk, Option.some.injEq] at h
    subst h
    cases e <;> simp only [nk, Option.some.injEq, reduceCtorEq, Option.map_eq_some_iff] at h' <;> first | (subst h'; simp [eqv, NestedKey.beq]; try rfl) | (obtain ⟨_, _, rfl⟩ := h'; simp [eqv, NestedKey.beq])
    rename_i c
    cases b <;> cases c <;> simp [b2i]
  | .int i, e, k, j, h, h' => by
    simp only [nk, Option.some.injEq] at h
    subst h
    cases e <;> simp only [nk, Option.some.injEq, reduceCtorEq, Option.map_eq_some_iff] at h' <;> first | (subst h'; simp [eqv, NestedKey.beq]; try rfl) | (obtain ⟨_, _, rfl⟩ := h'; simp [eqv, NestedKey.beq])
  | .tup xs, e, k, j, h, h' => by
    simp only [nk, Option.map_eq_some_iff] at h
    obtain ⟨ks, h1, rfl⟩ := h
    cases e <;> simp only [nk, Option.some.injEq, reduceCtorEq, Option.map_eq_some_iff] at h' <;> first | (subst h'; simp [eqv, NestedKey.beq]; done) | skip
    rename_i ys
    obtain ⟨js, h2, rfl⟩ := h'
    simp only [eqv, NestedKey.beq]
    exact nk_eqvL xs ys ks js h1 h2
  | .str _, e, k, j, h, _ => by simp [nk] at h
  | .lst _, e, k, j, h, _ => by simp [nk] at h
  | .dic _ _, e, k, j, h, _ => by simp [nk] at h
  | .ins _ _, e, k, j, h, _ => by simp [nk] at h
  | .drw _, e, k, j, h, _ => by simp [nk] at h
theorem nk_eqvL : ∀ (ds es : List D) (ks js : List NestedKey), nkL ds = some ks → nkL es = some js → eqv.eqvL ds es = NestedKey.beqAll ks js
  | [], [], ks, js, h, h' => by
    simp only [nkL, Option.some.injEq] at h h'
    subst h h'
    simp [eqv.eqvL, NestedKey.beqAll]
  | [], e :: es, ks, js, h, h' => by
    obtain ⟨k, r, h1, h2, rfl⟩ := nkL_cons h'
    simp only [nkL, Option.some.injEq] at h
    subst h
    simp [eqv.eqvL, NestedKey.beqAll]
  | d :: ds, [], ks, js, h, h' => by
    obtain ⟨k, r, h1, h2, rfl⟩ := nkL_cons h
    simp only [nkL, Option.some.injEq] at h'
    subst h'
    simp [eqv.eqvL, NestedKey.beqAll]
  | d :: ds, e :: es, ks, js, h, h' => by
    obtain ⟨k, r, h1, h2, rfl⟩ := nkL_cons h
    obtain ⟨k', r', h1', h2', rfl⟩ := nkL_cons h'
    simp only [eqv.eqvL, NestedKey.beqAll]
    rw [nk_eqv d e k k' h1 h1', nk_eqvL ds es r r' h2 h2']
end
theorem nk_eq {d e : D} {k j : NestedKey} (h : nk d = some k) (h' : nk e = some j) : eqv d e = decide (k = j) := by
  rw [NestedKey.decide_eq]
  exact nk_eqv d e k j h h'
theorem keyT {k : D} (h : keyOk true k = true) : ∃ c, nk k = some c ∧ c.depth ≤ 8 := by
  cases k <;> simp only [keyOk, reduceCtorEq] at h <;> first | cases h | exact hk_nk 8 _ h
theorem keyK {k : D} (h : keyOk false k = true) : ∃ c, kvK k = some c := by
  cases k <;> first | exact ⟨_, rfl⟩ | simp [keyOk] at h
theorem kv_eq {d e : D} {k j : Key} (h : kvK d = some k) (h' : kvK e = some j) : eqv d e = decide (k = j) := by
  cases d <;> simp only [kvK, Option.some.injEq, reduceCtorEq] at h <;> subst h <;> cases e <;> simp only [kvK, Option.some.injEq, reduceCtorEq] at h' <;> subst h' <;> simp [eqv]
  · rename_i a b
    by_cases q : a = b <;> simp [q]
  · rename_i a b
    by_cases q : a = b
    · simp [q]
    · have q2 : ¬ Str.ofString a = Str.ofString b := fun z => q (ofS_inj z)
      simp [q, q2]
theorem kv_rep {K : Frag} {A : AS} {H : Hp} {d : D} {k : Key} {v : V} (h : kvK d = some k) (r : Rep K A H d v) : v = kV k := by
  cases d <;> simp only [kvK, Option.some.injEq, reduceCtorEq] at h <;> subst h <;> simp only [Rep] at r <;> exact r
/-! ### in the heap -/
section
variable {X : Cx} {pins : List (Addr × Obj)} {σ : L2.St} {H : Hp} {s : Shared} {A : AS} {a : Addr}
mutual
theorem nest_of (I : Inv X pins σ H s) : ∀ (d : D) (v : V) (u : Value) (k : NestedKey), nk d = some k → Rep X.K A H d v → RelV v u → NestedIs s.heap k u
  | .non, v, u, k, h, r, e => by
    simp only [nk, Option.some.injEq] at h
    simp only [Rep] at r
    subst h r
    cases (show u = Value.none from e)
    exact .none
  | .bl b, v, u, k, h, r, e => by
    simp only [nk, Option.some.injEq] at h
    simp only [Rep] at r
    subst h r
    cases (show u = Value.bool b from e)
    exact .bool (by cases b <;> rfl)
  | .int i, v, u, k, h, r, e => by
    simp only [nk, Option.some.injEq] at h
    simp only [Rep] at r
    subst h r
    obtain ⟨t, rfl⟩ := (show ∃ t, u = Value.int i t from e)
    exact .int _ _
  | .tup xs, v, u, k, h, r, e => by
    simp only [nk, Option.map_eq_some_iff] at h
    obtain ⟨ks, h1, rfl⟩ := h
    simp only [Rep] at r
    obtain ⟨b, vs, rfl, q, r⟩ := r
    cases (show u = Value.ref b from e)
    obtain ⟨its, rv, ⟨o, g1, g2, n, g3⟩, _⟩ := I.tuple q
    exact .tup g1 g2 g3 (by simpa using nest_ofL I xs vs its ks h1 r rv)
  | .str _, v, u, k, h, _, _ => by simp [nk] at h
  | .lst _, v, u, k, h, _, _ => by simp [nk] at h
  | .dic _ _, v, u, k, h, _, _ => by simp [nk] at h
  | .ins _ _, v, u, k, h, _, _ => by simp [nk] at h
  | .drw _, v, u, k, h, _, _ => by simp [nk] at h
theorem nest_ofL (I : Inv X pins σ H s) : ∀ (ds : List D) (vs : List V) (us : List Value) (ks : List NestedKey), nkL ds = some ks → RepL X.K A H ds vs → Vals vs us → NestedAll s.heap ks us
  | [], vs, us, ks, h, r, e => by
    simp only [nkL, Option.some.injEq] at h
    simp only [RepL] at r
    subst h r
    cases e
    exact .nil
  | d :: ds, vs, us, ks, h, r, e => by
    obtain ⟨k, r', h1, h2, rfl⟩ := nkL_cons h
    simp only [RepL] at r
    obtain ⟨v, rs, rfl, q1, q2⟩ := r
    cases e with
    | cons e1 e2 => exact .cons (nest_of I d v _ k h1 q1 e1) (nest_ofL I ds rs _ r' h2 q2 e2)
end
theorem is_of (I : Inv X pins σ H s) {k : D} {c : NestedKey} {b : Addr} (h : keyOk true k = true) (hc : nk k = some c) (r : Rep X.K A H k (.ref b)) : (nestedKind X.prog X.w).is s.heap c b := by
  obtain ⟨c', h1, h2⟩ := keyT h
  rw [hc] at h1
  cases h1
  exact ⟨nest_of I k _ _ c hc r rfl, h2⟩
/-! ### look-ups -/
abbrev PT3 : List (NestedKey × Addr × V) → List (NestedKey × Addr × Value) → Prop := Paired fun p q => p.1 = q.1 ∧ p.2.1 = q.2.1 ∧ RelV p.2.2 q.2.2
theorem find_T {K : Frag} {k : D} {c : NestedKey} (hc : nk k = some c) : ∀ {kvs : List (D × D)} {es : List (NestedKey × Addr × V)} {xs : List (NestedKey × Addr × Value)}, RepT K A H kvs es → PT3 es xs →
    match find k kvs with | some d => ∃ b u v, atKey xs c = some (b, u) ∧ RelV v u ∧ Rep K A H d v | none => atKey xs c = none
  | [], es, xs, r, p => by
    simp only [RepT] at r
    subst r
    cases p
    rfl
  | (k0, d0) :: kvs, es, xs, r, p => by
    simp only [RepT] at r
    obtain ⟨c0, b, v, q, rfl, ⟨h0, _⟩, h1, h2, h3⟩ := r
    cases p with
    | @cons _ y _ ys hp t =>
      obtain ⟨p1, p2, p3⟩ := hp
      simp only [find, nk_eq h0 hc]
      have p1' : c0 = y.1 := p1
      by_cases e : c0 = c
      · rw [decide_eq_true e]
        refine ⟨y.2.1, y.2.2, v, ?_, p3, h2⟩
        unfold atKey
        rw [List.find?_cons_of_pos (by simpa using p1'.symm.trans e)]
        rfl
      · rw [decide_eq_false e]
        have e2 : atKey (y :: ys) c = atKey ys c := by
          unfold atKey
          rw [List.find?_cons_of_neg (by simpa using fun z => e (p1'.trans z))]
        rw [e2]
        exact find_T hc h3 t
theorem find_K {K : Frag} {k : D} {c : Key} (hc : kvK k = some c) : ∀ {kvs : List (D × D)} {ks : List (Key × V)}, RepK K A H kvs ks →
    match find k kvs with | some d => ∃ v, valV ks c = some v ∧ Rep K A H d v | none => valV ks c = none
  | [], ks, r => by
    simp only [RepK] at r
    subst r
    rfl
  | (k0, d0) :: kvs, ks, r => by
    simp only [RepK] at r
    obtain ⟨c0, v, q, rfl, h0, h2, h3⟩ := r
    simp only [find, kv_eq h0 hc]
    by_cases e : c0 = c
    · rw [decide_eq_true e, valV_pos (p := (c0, v)) e]
      exact ⟨v, rfl, h2⟩
    · rw [decide_eq_false e, valV_neg (p := (c0, v)) e]
      exact find_K hc h3
theorem dic_rd (I : Inv X pins σ H s) {es : List (NestedKey × Addr × V)} {kvs : List (D × D)} (e : H a = some (dicT a es)) (r : RepT X.K A H kvs es) : es.length ≤ sizeLine ∧ (a == sysModules) = false ∧ ∃ xs, PT3 es xs ∧ s.heap.DictOfH (nestedKind X.prog X.w) a xs ∧
    ∃ o en ep, s.heap.get? a = some o ∧ o.ExactDict ∧ o.data = .dict en ep ∧ (∀ w : World, en.toList = xs.map (entW w)) ∧ (xs.map (·.1)).Nodup := by
  obtain ⟨⟨h1, h2, xs, h3, o, en, ep, g1, g2, g3, g4, g5⟩, _, _⟩ := (show ObjOk X.prog X.w H s.heap a (dicT a es) from I.hok a _ e)
  refine ⟨h2, h1, xs, h3, ⟨o, en, ep, g1, g2, g3, g4 X.w, ?_, g5⟩, o, en, ep, g1, g2, g3, g4, g5⟩
  have all : ∀ {kvs : List (D × D)} {es : List (NestedKey × Addr × V)} {xs : List (NestedKey × Addr × Value)}, RepT X.K A H kvs es → PT3 es xs → ∀ x ∈ xs, (nestedKind X.prog X.w).is s.heap x.1 x.2.1 := by
    intro kvs
    induction kvs with
    | nil =>
      intro es xs r p
      simp only [RepT] at r
      subst r
      cases p
      intro x hx
      cases hx
    | cons kd kvs ih =>
      intro es xs r p
      obtain ⟨k0, d0⟩ := kd
      simp only [RepT] at r
      obtain ⟨c0, b, v, q, rfl, ⟨h0, hk0⟩, h1, h2, h3⟩ := r
      cases p with
      | cons hp t =>
        obtain ⟨p1, p2, p3⟩ := hp
        intro x hx
        rcases List.mem_cons.mp hx with z | hx
        · subst z
          have := is_of I hk0 h0 h1
          have p1' : c0 = x.1 := p1
          have p2' : b = x.2.1 := p2
          rw [p1', p2'] at this
          exact this
        · exact ih h3 t x hx
  exact all r h3
theorem dic_type (I : Inv X pins σ H s) {t : Bool} {kvs : List (D × D)} (g : DicAt X.K A H a t kvs) : s.TypeIs (.ref a) "dict" := by
  rcases g with ⟨rfl, ks, e, r⟩ | ⟨rfl, es, e, r⟩
  · obtain ⟨_, _, vs, _, dd⟩ := dk_of I.hok e
    exact dd.typeIs
  · obtain ⟨z, hsm, xs, rel, dd, _⟩ := dic_rd I e r
    exact dd.typeIs
/-- len(d) -/
theorem dic_len {B : Around} {E : Value → Shared → Prop} {t : Bool} {kvs : List (D × D)} {Q : Value → Shared → Prop} (I : Inv X pins σ H s) (g : DicAt X.K A H a t kvs) (hl : ∀ {kvs : List (D × D)} {es : List (NestedKey × Addr × V)}, RepT X.K A H kvs es → es.length = kvs.length) (hl2 : ∀ {kvs : List (D × D)} {es : List (Key × V)}, RepK X.K A H kvs es → es.length = kvs.length)
    (h : ∀ t' s', Inv X pins σ H s' → Q (.int kvs.length t') s') : wpAny (model X.prog X.w) B (PySem.call (.builtin "len") [.ref a]) Q E s := by
  rcases g with ⟨rfl, ks, e, r⟩ | ⟨rfl, es, e, r⟩
  · refine d_len I (.inl e) fun t' s' I' => ?_
    rw [hl2 r]
    exact h t' s' I'
  · obtain ⟨z, hsm, xs, rel, dd, _⟩ := dic_rd I e r
    have hm : s.heap.DictKeyed (nestedKind X.prog X.w) a (pairsH xs) := ⟨xs, dd, rfl⟩
    have h1 : (pairsH xs).length = kvs.length := by rw [pairsH_length, ← Paired.length rel, hl r]
    refine PyProof.Rows.call_len_slot (n := (pairsH xs).length) hm.typeIs F.slot_dict_len (fun Q' hq => len_keyed hsm hm hq) (by omega) ?_ ?_
    · have hz := sizeLine_eq
      have := Paired.length rel
      rw [pairsH_length]
      omega
    · rw [h1]
      exact h _ _ ((I.tok _).tok _)
/-- d[k], there -/
theorem dic_get {B : Around} {E : Value → Shared → Prop} {t : Bool} {kvs : List (D × D)} {k d : D} {y : V} {u : Value} {Q : Value → Shared → Prop} (hu : B.units + 16 < cLine) (I : Inv X pins σ H s) (g : DicAt X.K A H a t kvs) (hk : keyOk t k = true) (rk : Rep X.K A H k y) (ry : RelV y u)
    (hf : find k kvs = some d) (h : ∀ v w' s', Inv X pins σ H s' → RelV v w' → Rep X.K A H d v → Q w' s') : wpAny (model X.prog X.w) B (getItem (.ref a) u) Q E s := by
  rcases g with ⟨rfl, ks, e, r⟩ | ⟨rfl, es, e, r⟩
  · obtain ⟨c, hc⟩ := keyK hk
    have q := find_K hc r
    rw [hf] at q
    obtain ⟨v, hv, rv⟩ := q
    have hy := kv_rep hc rk
    subst hy
    refine d_getItem (by omega) I (hv ▸ DGet.k e) ry fun w' s' I' r' => h v w' s' I' r' rv
  · obtain ⟨c, hc, hd⟩ := keyT hk
    obtain ⟨z, hsm, xs, rel, dd, _⟩ := dic_rd I e r
    have q := find_T hc r rel
    rw [hf] at q
    obtain ⟨b, u', v, hat, rv, rd⟩ := q
    have hk' := hk
    cases k with
    | tup xs' =>
      simp only [Rep] at rk
      obtain ⟨b', vs, rfl, q1, q2⟩ := rk
      cases (show u = Value.ref b' from ry)
      refine wpAny_getItem_heap (by show B.units + 1 + 8 < cLine; omega) (is_of (A := A) I hk' hc (by simp only [Rep]; exact ⟨b', vs, rfl, q1, q2⟩)) dd hat ?_
      exact h v u' _ (I.tok _) rv rd
    | _ => simp [keyOk] at hk
theorem dic_in {B : Around} {E : Value → Shared → Prop} {t : Bool} {kvs : List (D × D)} {k : D} {y : V} {u : Value} {Q : Value → Shared → Prop} (hu : B.units + 16 < cLine) (I : Inv X pins σ H s) (g : DicAt X.K A H a t kvs) (hk : keyOk t k = true) (rk : Rep X.K A H k y) (ry : RelV y u)
    (h : ∀ s', Inv X pins σ H s' → Q (.bool (find k kvs).isSome) s') : wpAny (model X.prog X.w) B (compareOp .In u (.ref a)) Q E s := by
  rcases g with ⟨rfl, ks, e, r⟩ | ⟨rfl, es, e, r⟩
  · obtain ⟨c, hc⟩ := keyK hk
    have q := find_K hc r
    have hy := kv_rep hc rk
    subst hy
    refine d_in (by omega) I (DGet.k e) ry fun s' I' => ?_
    have z : (valV ks c).isSome = (find k kvs).isSome := by
      cases hf : find k kvs with
      | none => rw [hf] at q; rw [show valV ks c = none from q]; rfl
      | some d => rw [hf] at q; obtain ⟨v, hv, _⟩ := q; rw [hv]; rfl
    rw [z]
    exact h s' I'
  · obtain ⟨c, hc, hd⟩ := keyT hk
    obtain ⟨z, hsm, xs, rel, dd, _⟩ := dic_rd I e r
    have q := find_T hc r rel
    have hk' := hk
    cases k with
    | tup xs' =>
      simp only [Rep] at rk
      obtain ⟨b', vs, rfl, q1, q2⟩ := rk
      cases (show u = Value.ref b' from ry)
      refine wpAny_in_heap (by show B.units + 1 + 8 < cLine; omega) (is_of (A := A) I hk' hc (by simp only [Rep]; exact ⟨b', vs, rfl, q1, q2⟩)) hsm dd ?_
      have z : (atKey xs c).isSome = (find (.tup xs') kvs).isSome := by
        cases hf : find (.tup xs') kvs with
        | none => rw [hf] at q; rw [show atKey xs c = none from q]; rfl
        | some d => rw [hf] at q; obtain ⟨b, u', v, hv, _⟩ := q; rw [hv]; rfl
      rw [z]
      exact h _ (I.tok _)
    | _ => simp [keyOk] at hk
theorem dic_notIn {B : Around} {E : Value → Shared → Prop} {t : Bool} {kvs : List (D × D)} {k : D} {y : V} {u : Value} {Q : Value → Shared → Prop} (hu : B.units + 16 < cLine) (I : Inv X pins σ H s) (g : DicAt X.K A H a t kvs) (hk : keyOk t k = true) (rk : Rep X.K A H k y) (ry : RelV y u)
    (h : ∀ s', Inv X pins σ H s' → Q (.bool (!(find k kvs).isSome)) s') : wpAny (model X.prog X.w) B (compareOp .NotIn u (.ref a)) Q E s := by
  rcases g with ⟨rfl, ks, e, r⟩ | ⟨rfl, es, e, r⟩
  · obtain ⟨c, hc⟩ := keyK hk
    have q := find_K hc r
    have hy := kv_rep hc rk
    subst hy
    refine d_notIn (by omega) I (DGet.k e) ry fun s' I' => ?_
    have z : (valV ks c).isSome = (find k kvs).isSome := by
      cases hf : find k kvs with
      | none => rw [hf] at q; rw [show valV ks c = none from q]; rfl
      | some d => rw [hf] at q; obtain ⟨v, hv, _⟩ := q; rw [hv]; rfl
    rw [z]
    exact h s' I'
  · obtain ⟨c, hc, hd⟩ := keyT hk
    obtain ⟨z, hsm, xs, rel, dd, _⟩ := dic_rd I e r
    have q := find_T hc r rel
    have hk' := hk
    cases k with
    | tup xs' =>
      simp only [Rep] at rk
      obtain ⟨b', vs, rfl, q1, q2⟩ := rk
      cases (show u = Value.ref b' from ry)
      refine PyProof.Rows.wpAny_notIn_heap (by show B.units + 1 + 8 < cLine; omega) (is_of (A := A) I hk' hc (by simp only [Rep]; exact ⟨b', vs, rfl, q1, q2⟩)) hsm dd ?_
      have z : (atKey xs c).isSome = (find (.tup xs') kvs).isSome := by
        cases hf : find (.tup xs') kvs with
        | none => rw [hf] at q; rw [show atKey xs c = none from q]; rfl
        | some d => rw [hf] at q; obtain ⟨b, u', v, hv, _⟩ := q; rw [hv]; rfl
      rw [z]
      exact h _ (I.tok _)
    | _ => simp [keyOk] at hk
/-! ### stores -/
def putE (es : List (NestedKey × Addr × V)) (c : NestedKey) (b : Addr) (v : V) : List (NestedKey × Addr × V) :=
  if es.any (fun x => decide (x.1 = c)) then es.map (fun x => if x.1 = c then (x.1, x.2.1, v) else x) else es ++ [(c, b, v)]
theorem map_no {α β : Type} [DecidableEq α] (c : α) (f : α × β → α × β) : ∀ (es : List (α × β)), ¬ c ∈ es.map (·.1) → es.map (fun x => if x.1 = c then f x else x) = es
  | [], _ => rfl
  | x :: es, h => by
    simp only [List.map_cons, List.mem_cons, not_or] at h
    simp only [List.map_cons]
    rw [if_neg fun z => h.1 z.symm, map_no c f es h.2]
theorem put_T {K : Frag} {k d : D} {c : NestedKey} {b : Addr} {v : V} (hc : nk k = some c) (hk : keyOk true k = true) (rk : Rep K A H k (.ref b)) (rd : Rep K A H d v) : ∀ {kvs : List (D × D)} {es : List (NestedKey × Addr × V)}, RepT K A H kvs es → (es.map (·.1)).Nodup →
    RepT K A H (putD k d kvs) (putE es c b v)
  | [], es, r, _ => by
    simp only [RepT] at r
    subst r
    show RepT K A H [(k, d)] [(c, b, v)]
    simp only [RepT]
    exact ⟨c, b, v, [], rfl, ⟨hc, hk⟩, rk, rd, rfl⟩
  | (k0, d0) :: kvs, es, r, nd => by
    simp only [RepT] at r
    obtain ⟨c0, b0, v0, q, rfl, ⟨h0, hk0⟩, h1, h2, h3⟩ := r
    simp only [List.map_cons, List.nodup_cons] at nd
    simp only [putD, nk_eq h0 hc]
    by_cases e : c0 = c
    · rw [decide_eq_true e, if_pos rfl]
      have e1 : putE ((c0, b0, v0) :: q) c b v = (c0, b0, v) :: q := by
        unfold putE
        rw [if_pos (by simp [e])]
        simp only [List.map_cons]
        rw [if_pos e, map_no c (fun x => (x.1, x.2.1, v)) q (by rw [← e]; exact nd.1)]
      rw [e1]
      simp only [RepT]
      exact ⟨c0, b0, v, q, rfl, ⟨h0, hk0⟩, h1, rd, h3⟩
    · rw [decide_eq_false e, if_neg (by decide)]
      have e1 : putE ((c0, b0, v0) :: q) c b v = (c0, b0, v0) :: putE q c b v := by
        unfold putE
        simp only [List.any_cons, decide_eq_false e, Bool.false_or]
        split
        · simp only [List.map_cons]
          rw [if_neg e]
        · rfl
      rw [e1]
      simp only [RepT]
      exact ⟨c0, b0, v0, _, rfl, ⟨h0, hk0⟩, h1, h2, put_T hc hk rk rd h3 nd.2⟩
theorem put_K {K : Frag} {k d : D} {c : Key} {v : V} (hc : kvK k = some c) (rd : Rep K A H d v) : ∀ {kvs : List (D × D)} {ks : List (Key × V)}, RepK K A H kvs ks → (ks.map (·.1)).Nodup → RepK K A H (putD k d kvs) (putK ks c v)
  | [], ks, r, _ => by
    simp only [RepK] at r
    subst r
    show RepK K A H [(k, d)] [(c, v)]
    simp only [RepK]
    exact ⟨c, v, [], rfl, hc, rd, rfl⟩
  | (k0, d0) :: kvs, ks, r, nd => by
    simp only [RepK] at r
    obtain ⟨c0, v0, q, rfl, h0, h2, h3⟩ := r
    simp only [List.map_cons, List.nodup_cons] at nd
    simp only [putD, kv_eq h0 hc]
    by_cases e : c0 = c
    · rw [decide_eq_true e, if_pos rfl]
      have e1 : putK ((c0, v0) :: q) c v = (c0, v) :: q := by
        unfold putK
        rw [if_pos (by simp [e])]
        simp only [List.map_cons]
        rw [if_pos e, map_no c (fun x => (x.1, v)) q (by rw [← e]; exact nd.1)]
      rw [e1]
      simp only [RepK]
      exact ⟨c0, v, q, rfl, h0, rd, h3⟩
    · rw [decide_eq_false e, if_neg (by decide)]
      have e1 : putK ((c0, v0) :: q) c v = (c0, v0) :: putK q c v := by
        unfold putK
        simp only [List.any_cons, decide_eq_false e, Bool.false_or]
        split
        · simp only [List.map_cons]
          rw [if_neg e]
        · rfl
      rw [e1]
      simp only [RepK]
      exact ⟨c0, v0, _, rfl, h0, h2, put_K hc rd h3 nd.2⟩
theorem pt_keys : ∀ {es : List (NestedKey × Addr × V)} {xs : List (NestedKey × Addr × Value)}, PT3 es xs → es.map (·.1) = xs.map (·.1)
  | _, _, .nil => rfl
  | _, _, .cons h t => by
    simp only [List.map_cons]
    rw [h.1, pt_keys t]
theorem pt_any {es : List (NestedKey × Addr × V)} {xs : List (NestedKey × Addr × Value)} (p : PT3 es xs) (c : NestedKey) : (es.any fun x => decide (x.1 = c)) = (atKey xs c).isSome := by
  induction p with
  | nil => rfl
  | @cons x y es xs h t ih =>
    simp only [List.any_cons]
    have h1 : x.1 = y.1 := h.1
    by_cases e : y.1 = c
    · have e2 : atKey (y :: xs) c = some y.2 := by
        unfold atKey
        rw [List.find?_cons_of_pos (by simpa using e)]
        rfl
      rw [e2, h1, decide_eq_true e]
      rfl
    · have e2 : atKey (y :: xs) c = atKey xs c := by
        unfold atKey
        rw [List.find?_cons_of_neg (by simpa using e)]
      rw [e2, h1, decide_eq_false e, Bool.false_or, ih]
theorem pt_put {es : List (NestedKey × Addr × V)} {xs : List (NestedKey × Addr × Value)} (p : PT3 es xs) (c : NestedKey) (b : Addr) {v : V} {u : Value} (r : RelV v u) : PT3 (putE es c b v) (storedH xs c b u) := by
  unfold putE storedH
  rw [pt_any p]
  split
  · rename_i h
    clear h
    induction p with
    | nil => exact .nil
    | @cons x y es xs h t ih =>
      simp only [List.map_cons]
      refine .cons ?_ ih
      unfold putAt
      have h1 : x.1 = y.1 := h.1
      by_cases e : y.1 = c
      · rw [if_pos (h1.trans e), if_pos e]
        exact ⟨h1, h.2.1, r⟩
      · rw [if_neg fun z => e (h1.symm.trans z), if_neg e]
        exact h
  · exact Paired.snoc p ⟨rfl, rfl, r⟩
theorem putE_len (es : List (NestedKey × Addr × V)) (c : NestedKey) (b : Addr) (v : V) : (putE es c b v).length ≤ es.length + 1 := by
  unfold putE
  split <;> simp
theorem RepT.len {K : Frag} : ∀ {kvs : List (D × D)} {es : List (NestedKey × Addr × V)}, RepT K A H kvs es → es.length = kvs.length
  | [], es, r => by
    simp only [RepT] at r
    subst r
    rfl
  | (k, d) :: kvs, es, r => by
    simp only [RepT] at r
    obtain ⟨c0, b0, v0, q, rfl, _, _, _, h3⟩ := r
    simp [RepT.len h3]
theorem RepK.len {K : Frag} : ∀ {kvs : List (D × D)} {es : List (Key × V)}, RepK K A H kvs es → es.length = kvs.length
  | [], es, r => by
    simp only [RepK] at r
    subst r
    rfl
  | (k, d) :: kvs, es, r => by
    simp only [RepK] at r
    obtain ⟨c0, v0, q, rfl, _, _, h3⟩ := r
    simp [RepK.len h3]
theorem RepT.hash {K : Frag} (w w' : World) : ∀ {kvs : List (D × D)} {es : List (NestedKey × Addr × V)}, RepT K A H kvs es → ∀ x ∈ es, x.1.hash w = x.1.hash w'
  | [], es, r, x, hx => by
    simp only [RepT] at r
    subst r
    cases hx
  | (k, d) :: kvs, es, r, x, hx => by
    simp only [RepT] at r
    obtain ⟨c0, b0, v0, q, rfl, ⟨h0, _⟩, _, _, h3⟩ := r
    rcases List.mem_cons.mp hx with z | hx
    · subst z
      exact nk_hash w w' k c0 h0
    · exact RepT.hash w w' h3 x hx
theorem ent_any {w w' : World} : ∀ {es : List (NestedKey × Addr × V)} {xs : List (NestedKey × Addr × Value)}, PT3 es xs → (∀ x ∈ es, x.1.hash w = x.1.hash w') → xs.map (entW w) = xs.map (entW w')
  | _, _, .nil, _ => rfl
  | _, _, @Paired.cons _ _ _ x y es xs h t, hh => by
    simp only [List.map_cons]
    rw [ent_any t fun z hz => hh z (List.mem_cons_of_mem _ hz)]
    have h1 : x.1 = y.1 := h.1
    have h2 := hh x List.mem_cons_self
    rw [h1] at h2
    unfold entW
    rw [h2]
/-- d[k] = v -/
def rSetN (K : Frag) : TSet := fun o i v H Q => ∃ A t kvs k d a, o = .ref a ∧ A a ∧ DicAt K A H a t kvs ∧ Rep K A H k i ∧ Rep K A H d v ∧ keyOk t k = true ∧ kvs.length < SZ ∧ ∀ ob, DicAt K A (upd H a ob) a t (putD k d kvs) → Q (upd H a ob)
theorem set_dic (hu : X.A.units + 16 < cLine) : PSet X (rSetN X.K) := by
  intro pins s σ H o i v ov iv u Q I ro ri rv ⟨A, t, kvs, k, d, a, eo, hA, g, rk, rd, hk, hl, q⟩
  subst eo
  cases (show ov = Value.ref a from ro)
  rcases g with ⟨rfl, ks, e, r⟩ | ⟨rfl, es, e, r⟩
  · obtain ⟨c, hc⟩ := keyK hk
    have hy := kv_rep hc rk
    subst hy
    have hlen := r.len
    have nd : (ks.map (·.1)).Nodup := by
      obtain ⟨_, _, vs, rel, _, _, _, _, _, _, _, _, nd⟩ := dk_of I.hok e
      rw [rel.keys]
      exact nd
    refine d_setItem (by omega) I (DPut.k e (by rw [hlen]; exact hl)) ri rv fun s' I' => ⟨_, I', q _ ?_⟩
    have mv : Mv A H A (upd H a (.dK (putK ks c v))) := ⟨fun b hb => .inl hb, fun b ob e3 hb => by
      rw [upd_ne]
      · exact e3
      · intro z
        subst z
        rcases hb with hb | hb
        · exact hb hA
        · rw [e] at e3
          cases e3
          exact hb⟩
    exact .inl ⟨rfl, _, upd_same, RepK.move mv _ _ (put_K hc rd r nd)⟩
  · obtain ⟨c, hc, hd⟩ := keyT hk
    obtain ⟨z, hsm, xs, rel, dd, o0, en, ep, g1, g2, g3, g4, g5⟩ := dic_rd I e r
    have hk' := hk
    have nd : (es.map (·.1)).Nodup := by
      rw [pt_keys rel]
      exact g5
    cases k with
    | tup xs' =>
      have rk0 := rk
      simp only [Rep] at rk
      obtain ⟨b', vs, rfl, q1, q2⟩ := rk
      cases (show iv = Value.ref b' from ri)
      have hlen := r.len
      have hsz : SZ = sizeLine := rfl
      have hz : xs.length ≤ sizeLine := by rw [← Paired.length rel]; exact z
      have rp := put_T hc hk rk0 rd r nd
      have pp := pt_put rel c b' rv
      refine wpAny_setItem_heap (hsz := hz) (by show X.A.units + 1 + 8 < cLine; omega) (is_of (A := A) I hk hc rk0) dd fun h' dd' hs => ?_
      obtain ⟨q0, en', ep', hq, h2, h3, h4, _, h5⟩ := dd'
      have mv : Mv A H A (upd H a (dicT a (putE es c b' v))) := ⟨fun b hb => .inl hb, fun b ob e3 hb => by
        rw [upd_ne]
        · exact e3
        · intro z
          subst z
          rcases hb with hb | hb
          · exact hb hA
          · rw [e] at e3
            cases e3
            exact hb⟩
      refine ⟨upd H a (dicT a (putE es c b' v)), ?_, q _ (.inr ⟨rfl, _, upd_same, RepT.move mv _ _ rp⟩)⟩
      refine d_write I (by rw [e]; exact True.intro) hs ⟨q0, hq⟩ ⟨⟨hsm, ?_, _, pp, q0, en', ep', hq, h2, h3, fun w => ?_, h5⟩, ⟨q0, hq⟩, ?_⟩
      · have := putE_len es c b' v
        omega
      · have h4' : en'.toList = (storedH xs c b' u).map (entW X.w) := h4
        rw [h4']
        exact ent_any pp (rp.hash X.w w)
      · rintro h1 h2 ⟨y1, y2, xs', y3, o', en2, ep2, z1, z2⟩ hk2
        exact ⟨y1, y2, xs', y3, o', en2, ep2, hk2 _ z1, z2⟩
    | _ => simp [keyOk] at hk
/-- of a list or a dict -/
def rSetX (K : Frag) : TSet := fun o i v H Q => rSetL o i v H Q ∨ rSetN K o i v H Q
theorem set_any (hu : X.A.units + 16 < cLine) : PSet X (rSetX X.K) := fun pins s σ H o i v ov iv u Q I ro ri rv h => by
  rcases h with h | h
  · exact set_list pins s σ H o i v ov iv u Q I ro ri rv h
  · exact set_dic hu pins s σ H o i v ov iv u Q I ro ri rv h
end
end Py
/-! Operators. -/
namespace Py
open PySem L2
/-! ### data of the library -/
mutual
def toPy : D → PyData
  | .non => .none
  | .bl b => .bool b
  | .int i => .int i
  | .str s => .str (Str.ofString s)
  | .tup xs => .tuple (toPyL xs)
  | .lst xs => .list (toPyL xs)
  | .dic _ _ => .none
  | .ins _ _ => .none
  | .drw _ => .none
def toPyL : List D → List PyData
  | [] => []
  | d :: r => toPy d :: toPyL r
end
theorem str_len (s : String) : (Str.ofString s).length = s.length := by
  rw [Str.ofString_eq_toList]
  simp [Str.length, String.length_toList]
theorem str_ok (s : String) : PySem.PyData.strOk (Str.ofString s) = true := by
  rw [Str.ofString_eq_toList]
  simp only [PySem.PyData.strOk, List.size_toArray, List.all_toArray', List.all_map]
  refine List.all_eq_true.mpr fun c _ => ?_
  simp only [Function.comp, decide_eq_true_eq]
  rcases c.valid with h | h
  · have h2 : c.toNat < 55296 := h
    omega
  · have h2 : c.toNat < 1114112 := h.2
    omega
mutual
theorem dp_of {K : Frag} {H : Hp} : ∀ (n : Nat) (d : D) (v : V), pl n d = true → Rep K (fun _ => False) H d v → Dp K H v (toPy d) ∧ (toPy d).canLay0 = true ∧ (toPy d).depth ≤ n
  | n, .non, v, _, h => by
    simp only [Rep] at h
    subst h
    exact ⟨.non, by simp [toPy, PyData.canLay0], by simp [toPy, PyData.depth]⟩
  | n, .bl b, v, _, h => by
    simp only [Rep] at h
    subst h
    exact ⟨.bl b, by simp [toPy, PyData.canLay0], by simp [toPy, PyData.depth]⟩
  | n, .int b, v, _, h => by
    simp only [Rep] at h
    subst h
    exact ⟨.int b, by simp [toPy, PyData.canLay0], by simp [toPy, PyData.depth]⟩
  | n, .str b, v, _, h => by
    simp only [Rep] at h
    subst h
    exact ⟨.str _, by simp [toPy, PyData.canLay0, str_ok], by simp [toPy, PyData.depth]⟩
  | n + 1, .tup xs, v, p, h => by
    simp only [Rep] at h
    obtain ⟨a, vs, rfl, q, r⟩ := h
    simp only [pl] at p
    obtain ⟨h1, h2, h3⟩ := dp_ofL n xs vs p r
    refine ⟨?_, by simpa [toPy, PyData.canLay0] using h2, by simp only [toPy, PyData.depth]; omega⟩
    simp only [toPy]
    exact .tup q h1
  | n + 1, .lst xs, v, p, h => by
    simp only [Rep] at h
    obtain ⟨a, vs, rfl, _, q, r⟩ := h
    simp only [pl] at p
    obtain ⟨h1, h2, h3⟩ := dp_ofL n xs vs p r
    refine ⟨?_, by simpa [toPy, PyData.canLay0] using h2, by simp only [toPy, PyData.depth]; omega⟩
    simp only [toPy]
    exact .lst (.inl q) h1
  | 0, .tup xs, v, p, h => by simp [pl] at p
  | 0, .lst xs, v, p, h => by simp [pl] at p
  | n, .dic _ _, v, p, h => by cases n <;> simp [pl] at p
  | n, .ins _ _, v, p, h => by cases n <;> simp [pl] at p
  | n, .drw _, v, p, h => by cases n <;> simp [pl] at p
theorem dp_ofL {K : Frag} {H : Hp} : ∀ (n : Nat) (ds : List D) (vs : List V), ds.all (pl n) = true → RepL K (fun _ => False) H ds vs → DpAll K H vs (toPyL ds) ∧ PyData.canLayAll0 (toPyL ds) = true ∧ PyData.depthAll (toPyL ds) ≤ n
  | n, [], vs, _, h => by
    simp only [RepL] at h
    subst h
    exact ⟨.nil, by simp [toPyL, PyData.canLayAll0], by simp [toPyL, PyData.depthAll]⟩
  | n, d :: ds, vs, p, h => by
    simp only [RepL] at h
    obtain ⟨v, r, rfl, h1, h2⟩ := h
    simp only [List.all_cons, Bool.and_eq_true] at p
    obtain ⟨a1, a2, a3⟩ := dp_of n d v p.1 h1
    obtain ⟨b1, b2, b3⟩ := dp_ofL n ds r p.2 h2
    refine ⟨.cons a1 b1, by simp [toPyL, PyData.canLayAll0, a2, b2], by simp only [toPyL, PyData.depthAll]; omega⟩
end
mutual
theorem eqv_py : ∀ (d e : D) (n m : Nat), pl n d = true → pl m e = true → PyData.eqv (toPy d) (toPy e) = eqv d e
  | .non, e, n, m, _, q => by cases e <;> first | (cases m <;> simp [pl] at q; done) | simp [toPy, PyData.eqv, eqv]
  | .bl b, e, n, m, _, _ => by cases e <;> simp [toPy, PyData.eqv, eqv, b2i]
  | .int b, e, n, m, _, _ => by cases e <;> simp [toPy, PyData.eqv, eqv, b2i]
  | .str b, e, n, m, _, _ => by
    cases e with
    | str c =>
      simp only [toPy, PyData.eqv, eqv]
      by_cases q : b = c
      · subst q
        simp
      · rw [beq_eq_false_iff_ne.mpr q]
        exact beq_eq_false_iff_ne.mpr fun z => q (ofS_inj z)
    | _ => simp [toPy, PyData.eqv, eqv]
  | .tup xs, e, n, m, p, q => by
    cases e with
    | tup ys =>
      cases n with
      | zero => simp [pl] at p
      | succ n =>
        cases m with
        | zero => simp [pl] at q
        | succ m =>
          simp only [toPy, PyData.eqv, eqv]
          exact eqv_pyL xs ys n m (by simpa only [pl] using p) (by simpa only [pl] using q)
    | _ => simp [toPy, PyData.eqv, eqv]
  | .lst xs, e, n, m, p, q => by
    cases e with
    | lst ys =>
      cases n with
      | zero => simp [pl] at p
      | succ n =>
        cases m with
        | zero => simp [pl] at q
        | succ m =>
          simp only [toPy, PyData.eqv, eqv]
          exact eqv_pyL xs ys n m (by simpa only [pl] using p) (by simpa only [pl] using q)
    | _ => simp [toPy, PyData.eqv, eqv]
  | .dic _ _, e, n, m, p, _ => by cases n <;> simp [pl] at p
  | .ins _ _, e, n, m, p, _ => by cases n <;> simp [pl] at p
  | .drw _, e, n, m, p, _ => by cases n <;> simp [pl] at p
theorem eqv_pyL : ∀ (ds es : List D) (n m : Nat), ds.all (pl n) = true → es.all (pl m) = true → PyData.eqvAll (toPyL ds) (toPyL es) = eqv.eqvL ds es
  | [], [], _, _, _, _ => by simp [toPyL, PyData.eqvAll, eqv.eqvL]
  | [], _ :: _, _, _, _, _ => by simp [toPyL, PyData.eqvAll, eqv.eqvL]
  | _ :: _, [], _, _, _, _ => by simp [toPyL, PyData.eqvAll, eqv.eqvL]
  | d :: ds, e :: es, n, m, p, q => by
    simp only [List.all_cons, Bool.and_eq_true] at p q
    simp only [toPyL, PyData.eqvAll, eqv.eqvL]
    rw [eqv_py d e n m p.1 q.1, eqv_pyL ds es n m p.2 q.2]
end
/-! ### two operands, one operand -/
def r2 (K : Frag) (f : D → D → Res D) : R2 := fun x y H Q => ∃ A d1 d2 d, RepW K A H d1 x ∧ RepW K A H d2 y ∧ (∀ a, A a → H a ≠ none) ∧ f d1 d2 = .ok d ∧ ∀ v H', Same H H' → Rep K A H' d v → Q v H'
def r1 (K : Frag) (f : D → Res D) : V → Hp → VK → Prop := fun x H Q => ∃ A d1 d, RepW K A H d1 x ∧ (∀ a, A a → H a ≠ none) ∧ f d1 = .ok d ∧ ∀ v H', Same H H' → Rep K A H' d v → Q v H'
/-- no error, nothing drawn -/
def Res.isP {α : Type} : Res α → Bool
  | .ok _ => true | .stuck => true | _ => false
def NoEx2 (f : D → D → Res D) : Prop := ∀ x y (_ _ : Unit), (f x y).isP = true
def NoEx1 (f : D → Res D) : Prop := ∀ x (_ _ : Unit), (f x).isP = true
theorem NoEx2.exc {f : D → D → Res D} (h : NoEx2 f) {x y : D} {c : String} {fs : List (String × D)} (e : f x y = .exc c fs) : False := by
  have := h x y () ()
  rw [e] at this
  cases this
theorem NoEx2.pick {f : D → D → Res D} (h : NoEx2 f) {x y : D} {n : Nat} {k : Nat → Res D} (e : f x y = .pick n k) : False := by
  have := h x y () ()
  rw [e] at this
  cases this
theorem NoEx1.exc {f : D → Res D} (h : NoEx1 f) {x : D} {c : String} {fs : List (String × D)} (e : f x = .exc c fs) : False := by
  have := h x () ()
  rw [e] at this
  cases this
theorem NoEx1.pick {f : D → Res D} (h : NoEx1 f) {x : D} {n : Nat} {k : Nat → Res D} (e : f x = .pick n k) : False := by
  have := h x () ()
  rw [e] at this
  cases this
theorem leaf_bind {α β : Type} {r : Res α} {f : α → Res β} {b : β} (h : Res.leaf b (r >>= f)) : ∃ a, Res.leaf a r ∧ Res.leaf b (f a) := by
  induction r with
  | ok a => exact ⟨a, rfl, h⟩
  | exc c fs => exact h.elim
  | stuck => exact h.elim
  | pick n k ih =>
    rw [bind_pick] at h
    obtain ⟨i, hi, q⟩ := h
    obtain ⟨a, h1, h2⟩ := ih i q
    exact ⟨a, ⟨i, hi, h1⟩, h2⟩
theorem leaf_isP {α : Type} {r : Res α} {d : α} (h : r.isP = true) (l : Res.leaf d r) : r = .ok d := by
  cases r with
  | ok a => exact congrArg Res.ok l
  | exc c fs => exact l.elim
  | stuck => exact l.elim
  | pick n k => cases h
theorem r2_of {K : Frag} {A : AS} {W : WX} {O : OW} {σ : L2.St} {H0 : Base} {f : D → D → Res D} (hf : NoEx2 f) {x y : V} {H : Hp} {Q : VK} {d1 d2 : D} (h1 : RepW K A H d1 x) (h2 : RepW K A H d2 y) (ha : ∀ a, A a → H a ≠ none)
    {bad : String → List (String × D) → Prop} (h : Out (f d1 d2) (fun d => ∀ v H', Same H H' → Rep K A H' d v → Q v H') bad) : r2 K f x y H Q := by
  cases e : f d1 d2 with
  | ok d =>
    rw [e] at h
    exact ⟨A, d1, d2, d, h1, h2, ha, e, h⟩
  | exc c fs => exact (hf.exc e).elim
  | pick _ _ => exact (hf.pick e).elim
  | stuck =>
    rw [e] at h
    exact h.elim
theorem RepW.move {K : Frag} {A : AS} {H H' : Hp} (s : Same H H') {d : D} {v : V} (h : RepW K A H d v) : RepW K A H' d v := by
  cases d with
  | lst xs =>
    obtain ⟨a, vs, e, q, r⟩ := h
    refine ⟨a, vs, e, ?_, RepL.move (Mv.same s) _ _ r⟩
    rcases q with q | ⟨o, q⟩
    · exact .inl (s _ _ q)
    · exact .inr ⟨o, s _ _ q⟩
  | ins c fs =>
    obtain ⟨a, dx, fvs, e, q, r⟩ := h
    exact ⟨a, dx, fvs, e, s _ _ q, RepF.move (Mv.same s) _ _ r⟩
  | dic t kvs =>
    obtain ⟨a, e, q⟩ := h
    refine ⟨a, e, ?_⟩
    rcases q with ⟨ht, ks, q, r⟩ | ⟨ht, es, q, r⟩
    · exact .inl ⟨ht, ks, s _ _ q, RepK.move (Mv.same s) _ _ r⟩
    · exact .inr ⟨ht, es, s _ _ q, RepT.move (Mv.same s) _ _ r⟩
  | _ => exact Rep.move (Mv.same s) _ _ h
section
variable {X : Cx} {W : WX} {A : AS} {H0 : Base} {ow : Ow} {a b : Expr} {ma mb : EM} {pos : Pos}
theorem two_of {f : D → D → Res D} (hf : NoEx2 f) {σ : L2.St} {H : Hp} {Q : VK} (h : tE X.K W ow (bin f ma mb) σ H Q) : tOp (r2 X.K f) (tW X.K W ow ma) (tW X.K W ow mb) σ H Q := by
  obtain ⟨A, H0, O, en, R, q⟩ := h
  refine ⟨A, H0, O, en, R, (Out.bind q).good fun d1 q1 v1 H1 s1 r1 => ?_⟩
  refine ⟨A, H0, O, en, R.to s1, ((Out.bind q1).to s1).good fun d2 q2 v2 H2 s2 r2 => ?_⟩
  have R2 := (R.to s1).to s2
  exact r2_of (W := W) (O := O) (σ := σ) (H0 := H0) hf (r1.move s2) r2 R2.there (q2.good fun d k v H' s' r => k v H' ((s1.trans s2).trans s') r)
theorem one_of {f : D → Res D} (hf : NoEx1 f) {σ : L2.St} {H : Hp} {Q : VK} (h : tE X.K W ow (un f ma) σ H Q) : tUn (r1 X.K f) (tW X.K W ow ma) σ H Q := by
  obtain ⟨A, H0, O, en, R, q⟩ := h
  refine ⟨A, H0, O, en, R, (Out.bind q).good fun d1 q1 v1 H1 s1 r1 => ?_⟩
  have R2 := R.to s1
  cases e : f d1 with
  | ok d =>
    rw [e] at q1
    exact ⟨_, d1, d, r1, R2.there, e, fun v H' s' r => q1 v H' (s1.trans s') r⟩
  | exc c fs => exact (hf.exc e).elim
  | pick _ _ => exact (hf.pick e).elim
  | stuck =>
    rw [e] at q1
    exact q1.elim
theorem x_bin {op : Operator} {f : D → D → Res D} (ho : OpR X (binaryOp op) (r2 X.K f)) (hf : NoEx2 f) (ha : PE X a (tW X.K W ow ma)) (hb : PE X b (tW X.K W ow mb)) : PE X (.BinOp a op b pos) (tE X.K W ow (bin f ma mb)) :=
  PE.of (pe_op ho ha hb) fun _ _ _ h => two_of hf h
theorem x_un {op : UnaryOp} {f : D → Res D} (ho : UnR X (unaryOp op) (r1 X.K f)) (hf : NoEx1 f) (ha : PE X a (tW X.K W ow ma)) : PE X (.UnaryOp op a pos) (tE X.K W ow (un f ma)) :=
  PE.of (pe_un ho ha) fun _ _ _ h => one_of hf h
theorem x_cmp {op : CmpOp} {f : D → D → Res D} (ho : OpR X (compareOp op) (r2 X.K f)) (hf : NoEx2 f) (ha : PE X a (tW X.K W ow ma)) (hb : PE X b (tW X.K W ow mb)) (hm : behindInMarks op b = false) : PE X (.Compare a [op] [b] pos) (tE X.K W ow (bin f ma mb)) :=
  PE.of (pe_cmpR ho ha hb hm) fun _ _ _ h => two_of hf h
/-! ### ints -/
theorem rep_int {K : Frag} {A : AS} {H : Hp} {i : Int} {v : V} (h : RepW K A H (.int i) v) : v = .int i := h
theorem imp2 {g : Value → Value → Sem Value} {r r' : R2} (h : OpR X g r) (k : ∀ x y H Q, r' x y H Q → r x y H Q) : OpR X g r' := fun pins s σ H x y v u Q I rx ry q => h pins s σ H x y v u Q I rx ry (k x y H Q q)
theorem imp1 {g : Value → Sem Value} {r r' : V → Hp → VK → Prop} (h : UnR X g r) (k : ∀ x H Q, r' x H Q → r x H Q) : UnR X g r' := fun pins s σ H x v Q I rx q => h pins s σ H x v Q I rx (k x H Q q)
theorem int_op {g : Value → Value → Sem Value} {f : D → D → Res D} {C : Int → Int → Prop} {z : Int → Int → V} {zd : Int → Int → D} (h : OpR X g (rI C z))
    (hz : ∀ i j, flat (zd i j) = some (z i j)) (hf : ∀ d1 d2 d, f d1 d2 = .ok d → ∃ i j, d1 = .int i ∧ d2 = .int j ∧ C i j ∧ d = zd i j) : OpR X g (r2 X.K f) := imp2 h fun x y H Q ⟨A, d1, d2, d, h1, h2, _, e, k⟩ => by
  obtain ⟨i, j, rfl, rfl, c, rfl⟩ := hf d1 d2 d e
  exact ⟨i, j, rep_int h1, rep_int h2, c, k _ H (Same.refl H) (flat_rep (hz i j) _ _)⟩
theorem rI_of {g : Value → Value → Sem Value} {z : Int → Int → V} (h : OpR X g (rI0 z)) : OpR X g (rI (fun _ _ => True) z) := imp2 h fun x y H Q ⟨i, j, e1, e2, _, q⟩ => ⟨i, j, e1, e2, q⟩
theorem y_sub : OpR X (binaryOp .Sub) (r2 X.K osub) := int_op (rI_of op_sub) (zd := fun i j => .int (i - j)) (fun _ _ => rfl) fun d1 d2 d e => by
  cases d1 <;> cases d2 <;> simp only [osub, Res.ok.injEq, reduceCtorEq] at e
  exact ⟨_, _, rfl, rfl, trivial, e.symm⟩
theorem y_mul : OpR X (binaryOp .Mult) (r2 X.K omul) := int_op op_mul (zd := fun i j => .int (i * j)) (fun _ _ => rfl) fun d1 d2 d e => by
  cases d1 <;> cases d2 <;> simp only [omul, reduceCtorEq] at e
  split at e
  · rename_i c
    refine ⟨_, _, rfl, rfl, ?_, ?_⟩
    · simp only [B64] at c
      unfold CMul
      have e64 : (2 : Int) ^ 64 = 18446744073709551616 := by decide
      rw [e64]
      omega
    · simp only [Res.ok.injEq] at e
      exact e.symm
  · cases e
theorem y_fdiv : OpR X (binaryOp .FloorDiv) (r2 X.K ofdiv) := int_op op_fdiv (zd := fun i j => .int (i / j)) (fun _ _ => rfl) fun d1 d2 d e => by
  cases d1 <;> cases d2 <;> simp only [ofdiv, reduceCtorEq] at e
  split at e
  · rename_i c
    simp only [Res.ok.injEq] at e
    exact ⟨_, _, rfl, rfl, c, e.symm⟩
  · cases e
theorem y_mod : OpR X (binaryOp .Mod) (r2 X.K omod) := int_op op_mod (zd := fun i j => .int (i % j)) (fun _ _ => rfl) fun d1 d2 d e => by
  cases d1 <;> cases d2 <;> simp only [omod, reduceCtorEq] at e
  split at e
  · rename_i c
    simp only [Res.ok.injEq] at e
    exact ⟨_, _, rfl, rfl, c, e.symm⟩
  · cases e
theorem y_pow : OpR X (binaryOp .Pow) (r2 X.K opow) := int_op op_pow (zd := fun i j => .int (i ^ j.toNat)) (fun _ _ => rfl) fun d1 d2 d e => by
  cases d1 <;> cases d2 <;> simp only [opow, reduceCtorEq] at e
  split at e
  · rename_i c
    simp only [Res.ok.injEq] at e
    refine ⟨_, _, rfl, rfl, ?_, e.symm⟩
    have e64 : (2 : Nat) ^ 64 = 18446744073709551616 := by decide
    unfold CPow
    rw [e64]
    exact c
  · cases e
theorem y_shl : OpR X (binaryOp .LShift) (r2 X.K oshl) := int_op op_shlW (zd := fun i j => .int (i * 2 ^ j.toNat)) (fun _ _ => rfl) fun d1 d2 d e => by
  cases d1 <;> cases d2 <;> simp only [oshl, reduceCtorEq] at e
  split at e
  · rename_i c
    simp only [Res.ok.injEq] at e
    refine ⟨_, _, rfl, rfl, ?_, e.symm⟩
    have e64 : (2 : Int) ^ 27 = 134217728 := by decide
    unfold CShl
    rw [e64]
    exact c
  · cases e
theorem y_shr : OpR X (binaryOp .RShift) (r2 X.K oshr) := int_op op_shr (zd := fun i j => .int (i / 2 ^ j.toNat)) (fun _ _ => rfl) fun d1 d2 d e => by
  cases d1 <;> cases d2 <;> simp only [oshr, reduceCtorEq] at e
  split at e
  · rename_i c
    simp only [Res.ok.injEq] at e
    exact ⟨_, _, rfl, rfl, c, e.symm⟩
  · cases e
theorem y_and : OpR X (binaryOp .BitAnd) (r2 X.K oand) := int_op (rI_of op_and) (zd := fun i j => .int (Builtin.bitAnd i j)) (fun _ _ => rfl) fun d1 d2 d e => by
  cases d1 <;> cases d2 <;> simp only [oand, Res.ok.injEq, reduceCtorEq] at e
  exact ⟨_, _, rfl, rfl, trivial, e.symm⟩
theorem y_xor : OpR X (binaryOp .BitXor) (r2 X.K oxor) := int_op (rI_of op_xor) (zd := fun i j => .int (Builtin.bitXor i j)) (fun _ _ => rfl) fun d1 d2 d e => by
  cases d1 <;> cases d2 <;> simp only [oxor, Res.ok.injEq, reduceCtorEq] at e
  exact ⟨_, _, rfl, rfl, trivial, e.symm⟩
theorem y_lt : OpR X (compareOp .Lt) (r2 X.K olt) := int_op (rI_of op_lt) (zd := fun i j => .bl (decide (i < j))) (fun _ _ => rfl) fun d1 d2 d e => by
  cases d1 <;> cases d2 <;> simp only [olt, Res.ok.injEq, reduceCtorEq] at e
  exact ⟨_, _, rfl, rfl, trivial, e.symm⟩
theorem y_le : OpR X (compareOp .LtE) (r2 X.K ole) := int_op (rI_of op_le) (zd := fun i j => .bl (decide (i ≤ j))) (fun _ _ => rfl) fun d1 d2 d e => by
  cases d1 <;> cases d2 <;> simp only [ole, Res.ok.injEq, reduceCtorEq] at e
  exact ⟨_, _, rfl, rfl, trivial, e.symm⟩
theorem y_gt : OpR X (compareOp .Gt) (r2 X.K ogt) := int_op (rI_of op_gt) (zd := fun i j => .bl (decide (j < i))) (fun _ _ => rfl) fun d1 d2 d e => by
  cases d1 <;> cases d2 <;> simp only [ogt, Res.ok.injEq, reduceCtorEq] at e
  exact ⟨_, _, rfl, rfl, trivial, e.symm⟩
theorem y_neg : UnR X (unaryOp .USub) (r1 X.K oneg) := imp1 un_neg fun x H Q ⟨A, d1, d, h1, _, e, k⟩ => by
  cases d1 <;> simp only [oneg, Res.ok.injEq, reduceCtorEq] at e
  subst e
  exact ⟨_, rep_int h1, k _ H (Same.refl H) (flat_rep rfl _ _)⟩
/-! ### == and in -/
theorem y_eq (hu : X.A.units + 64 < cLine) : OpR X (compareOp .Eq) (r2 X.K oeq) := imp2 (op_eqD hu) fun x y H Q ⟨A, d1, d2, d, h1, h2, _, e, k⟩ => by
  unfold oeq at e
  split at e
  · rename_i c
    rw [Bool.and_eq_true] at c
    simp only [Res.ok.injEq] at e
    subst e
    obtain ⟨a1, a2, a3⟩ := dp_of 64 d1 x c.1 h1.none
    obtain ⟨b1, b2, b3⟩ := dp_of 64 d2 y c.2 h2.none
    refine ⟨_, _, a1, b1, ?_, ?_, ?_⟩
    · unfold SeqAt.shaped
      rw [a2, decide_eq_true a3]
      rfl
    · unfold SeqAt.shaped
      rw [b2, decide_eq_true b3]
      rfl
    · rw [eqv_py d1 d2 64 64 c.1 c.2]
      exact k _ H (Same.refl H) (flat_rep rfl _ _)
  · cases e
theorem y_ne (hu : X.A.units + 64 < cLine) : OpR X (compareOp .NotEq) (r2 X.K one) := imp2 (op_neD hu) fun x y H Q ⟨A, d1, d2, d, h1, h2, _, e, k⟩ => by
  unfold one at e
  split at e
  · rename_i c
    rw [Bool.and_eq_true] at c
    simp only [Res.ok.injEq] at e
    subst e
    obtain ⟨a1, a2, a3⟩ := dp_of 64 d1 x c.1 h1.none
    obtain ⟨b1, b2, b3⟩ := dp_of 64 d2 y c.2 h2.none
    refine ⟨_, _, a1, b1, ?_, ?_, ?_⟩
    · unfold SeqAt.shaped
      rw [a2, decide_eq_true a3]
      rfl
    · unfold SeqAt.shaped
      rw [b2, decide_eq_true b3]
      rfl
    · rw [eqv_py d1 d2 64 64 c.1 c.2]
      exact k _ H (Same.refl H) (flat_rep rfl _ _)
  · cases e
theorem flat_v {K : Frag} {A : AS} {H : Hp} {d : D} {v : V} (f : flatD d = true) (h : Rep K A H d v) : flatV v = true ∧ ∀ {e : D} {w : V}, flatD e = true → Rep K A H e w → eqV v w = eqv d e := by
  cases d <;> simp only [flatD, reduceCtorEq] at f <;> simp only [Rep] at h <;> subst h <;> refine ⟨rfl, ?_⟩ <;> intro e w fe he <;> cases e <;> simp only [flatD, reduceCtorEq] at fe <;> simp only [Rep] at he <;> subst he <;> simp only [eqV, eqv, b2i]
  rename_i b c
  by_cases q : b = c
  · subst q
    simp
  · rw [beq_eq_false_iff_ne.mpr q]
    exact beq_eq_false_iff_ne.mpr fun z => q (ofS_inj z)
theorem flat_all {K : Frag} {A : AS} {H : Hp} {x : D} {w : V} (fx : flatD x = true) (hx : Rep K A H x w) : ∀ {ds : List D} {vs : List V}, ds.all flatD = true → RepL K A H ds vs → vs.all flatV = true ∧ inV w vs = mem x ds
  | [], vs, _, h => by
    simp only [RepL] at h
    subst h
    exact ⟨rfl, rfl⟩
  | d :: ds, vs, f, h => by
    simp only [RepL] at h
    obtain ⟨v, r, rfl, h1, h2⟩ := h
    simp only [List.all_cons, Bool.and_eq_true] at f
    obtain ⟨a1, a2⟩ := flat_v f.1 h1
    obtain ⟨b1, b2⟩ := flat_all fx hx f.2 h2
    refine ⟨by simp only [List.all_cons, a1, b1, Bool.and_self], ?_⟩
    unfold inV at b2 ⊢
    simp only [List.any_cons, mem, a2 fx hx, b2]
theorem flatW {K : Frag} {A : AS} {H : Hp} {d : D} {v : V} (f : flatD d = true) (h : RepW K A H d v) : Rep K A H d v := by
  cases d <;> simp only [flatD, reduceCtorEq] at f <;> exact h
theorem in_of {K : Frag} {neg : Bool} {f : D → D → Res D} (hf : ∀ x y d, f x y = .ok d → ∃ ys, (y = .lst ys ∨ y = .tup ys) ∧ flatD x = true ∧ ys.all flatD = true ∧ d = .bl (if neg then !mem x ys else mem x ys)) :
    ∀ x y H Q, r2 K f x y H Q → rIn K neg x y H Q := fun x y H Q ⟨A, d1, d2, d, h1, h2, _, e, k⟩ => by
  obtain ⟨ys, hy, fx, fy, rfl⟩ := hf d1 d2 d e
  have g1 := flatW fx h1
  obtain ⟨a, vs, rfl, hq, r⟩ : ∃ a vs, y = .ref a ∧ (SqL K H a vs ∨ SqT K H a vs) ∧ RepL K A H ys vs := by
    rcases hy with rfl | rfl
    · obtain ⟨a, vs, e, q, r⟩ := h2
      exact ⟨a, vs, e, .inl (.inl q), r⟩
    · obtain ⟨a, vs, e, q, r⟩ := (by simpa only [RepW, Rep] using h2 : ∃ a vs, y = .ref a ∧ SqT K H a vs ∧ RepL K A H ys vs)
      exact ⟨a, vs, e, .inr q, r⟩
  obtain ⟨b1, b2⟩ := flat_all fx g1 fy r
  refine ⟨a, vs, rfl, hq, (flat_v fx g1).1, b1, ?_⟩
  rw [b2]
  exact k _ H (Same.refl H) (flat_rep rfl _ _)
def isDic : D → Bool
  | .dic _ _ => true
  | _ => false
theorem y_in (hu : X.A.units + 16 < cLine) : OpR X (compareOp .In) (r2 X.K oin) := by
  have base : OpR X (compareOp .In) (fun x y H Q => ∃ A d1 d2 d, isDic d2 = false ∧ RepW X.K A H d1 x ∧ RepW X.K A H d2 y ∧ (∀ a, A a → H a ≠ none) ∧ oin d1 d2 = .ok d ∧ ∀ v H', Same H H' → Rep X.K A H' d v → Q v H') :=
    imp2 op_in_seq fun x y H Q ⟨A, d1, d2, d, hd, h1, h2, h3, e, k⟩ => by
      have q : r2 X.K (fun a b => if isDic b then Res.stuck else oin a b) x y H Q := ⟨A, d1, d2, d, h1, h2, h3, by show (if isDic d2 = true then Res.stuck else oin d1 d2) = _; rw [hd]; exact e, k⟩
      refine in_of (f := fun a b => if isDic b then Res.stuck else oin a b) (neg := false) (fun x y d e => ?_) x y H Q q
      cases y with
      | tup xs =>
        have e : oin x (.tup xs) = .ok d := e
        simp only [oin] at e
        split at e
        · rename_i c
          rw [Bool.and_eq_true] at c
          simp only [Res.ok.injEq] at e
          exact ⟨xs, .inr rfl, c.1, c.2, e.symm⟩
        · cases e
      | lst xs =>
        have e : oin x (.lst xs) = .ok d := e
        simp only [oin] at e
        split at e
        · rename_i c
          rw [Bool.and_eq_true] at c
          simp only [Res.ok.injEq] at e
          exact ⟨xs, .inl rfl, c.1, c.2, e.symm⟩
        · cases e
      | _ => simp [oin, isDic] at e
  intro pins s σ H x y v u Q I rx ry ⟨A, d1, d2, d, h1, h2, h3, e, k⟩
  cases hd : isDic d2 with
  | false => exact base pins s σ H x y v u Q I rx ry ⟨A, d1, d2, d, hd, h1, h2, h3, e, k⟩
  | true =>
    cases d2 <;> simp only [isDic, reduceCtorEq] at hd
    rename_i t kvs
    simp only [oin] at e
    split at e
    · rename_i hk
      simp only [Res.ok.injEq] at e
      subst e
      obtain ⟨a, rfl, g⟩ := h2
      cases (show u = Value.ref a from ry)
      have h1' : Rep X.K A H d1 x := by
        cases d1 <;> first | exact h1 | (cases t <;> simp [keyOk] at hk)
      exact dic_in hu I g hk h1' rx fun s' I' => ⟨.bl (find d1 kvs).isSome, H, I', rfl, k _ H (Same.refl H) rfl⟩
    · cases e
theorem y_notin (hu : X.A.units + 16 < cLine) : OpR X (compareOp .NotIn) (r2 X.K onotin) := by
  have base : OpR X (compareOp .NotIn) (fun x y H Q => ∃ A d1 d2 d, isDic d2 = false ∧ RepW X.K A H d1 x ∧ RepW X.K A H d2 y ∧ (∀ a, A a → H a ≠ none) ∧ onotin d1 d2 = .ok d ∧ ∀ v H', Same H H' → Rep X.K A H' d v → Q v H') :=
    imp2 op_notIn_seq fun x y H Q ⟨A, d1, d2, d, hd, h1, h2, h3, e, k⟩ => by
      have q : r2 X.K (fun a b => if isDic b then Res.stuck else onotin a b) x y H Q := ⟨A, d1, d2, d, h1, h2, h3, by show (if isDic d2 = true then Res.stuck else onotin d1 d2) = _; rw [hd]; exact e, k⟩
      refine in_of (f := fun a b => if isDic b then Res.stuck else onotin a b) (neg := true) (fun x y d e => ?_) x y H Q q
      cases y with
      | tup xs =>
        have e : onotin x (.tup xs) = .ok d := e
        simp only [onotin] at e
        split at e
        · rename_i c
          rw [Bool.and_eq_true] at c
          simp only [Res.ok.injEq] at e
          exact ⟨xs, .inr rfl, c.1, c.2, e.symm⟩
        · cases e
      | lst xs =>
        have e : onotin x (.lst xs) = .ok d := e
        simp only [onotin] at e
        split at e
        · rename_i c
          rw [Bool.and_eq_true] at c
          simp only [Res.ok.injEq] at e
          exact ⟨xs, .inl rfl, c.1, c.2, e.symm⟩
        · cases e
      | _ => simp [onotin, isDic] at e
  intro pins s σ H x y v u Q I rx ry ⟨A, d1, d2, d, h1, h2, h3, e, k⟩
  cases hd : isDic d2 with
  | false => exact base pins s σ H x y v u Q I rx ry ⟨A, d1, d2, d, hd, h1, h2, h3, e, k⟩
  | true =>
    cases d2 <;> simp only [isDic, reduceCtorEq] at hd
    rename_i t kvs
    simp only [onotin] at e
    split at e
    · rename_i hk
      simp only [Res.ok.injEq] at e
      subst e
      obtain ⟨a, rfl, g⟩ := h2
      cases (show u = Value.ref a from ry)
      have h1' : Rep X.K A H d1 x := by
        cases d1 <;> first | exact h1 | (cases t <;> simp [keyOk] at hk)
      exact dic_notIn hu I g hk h1' rx fun s' I' => ⟨.bl (!(find d1 kvs).isSome), H, I', rfl, k _ H (Same.refl H) rfl⟩
    · cases e
/-! ### + -/
theorem RepL.empty {K : Frag} {A : AS} {H : Hp} {ds : List D} {vs : List V} (h : RepL K A H ds vs) : ds = [] ↔ vs = [] := by
  have := h.length
  constructor
  · intro e
    subst e
    exact List.eq_nil_of_length_eq_zero this.symm
  · intro e
    subst e
    exact List.eq_nil_of_length_eq_zero this
/-- a new object is clean -/
theorem new_same {H : Hp} {p : Addr} {o : HO} (h : H p = none) : Same H (upd H p o) := fun b u e => by
  rw [upd_ne (ne_of_none e h)]
  exact e
theorem new_tup {K : Frag} {A : AS} {H : Hp} {ds : List D} {vs : List V} (r : RepL K A H ds vs) {p : Addr} (h : H p = none) : Rep K A (upd H p (.tup vs)) (.tup ds) (.ref p) := by
  simp only [Rep]
  exact ⟨p, vs, rfl, .inl (.inl upd_same), RepL.move (Mv.same (new_same h)) _ _ r⟩
theorem new_lst {K : Frag} {A : AS} {H : Hp} (ha : ∀ a, A a → H a ≠ none) {ds : List D} {vs : List V} (r : RepL K A H ds vs) {p : Addr} (h : H p = none) : Rep K A (upd H p (.lst vs)) (.lst ds) (.ref p) := by
  simp only [Rep]
  exact ⟨p, vs, rfl, fun z => ha p z h, .inl upd_same, RepL.move (Mv.same (new_same h)) _ _ r⟩
theorem str_app (a b : String) : Str.ofString a ++ Str.ofString b = Str.ofString (a ++ b) := by
  simp only [Str.ofString_eq_toList]
  show Str.append _ _ = _
  simp [Str.append]
theorem lst_at {pins : List (Addr × Obj)} {σ : L2.St} {H : Hp} {s : Shared} (I : Inv X pins σ H s) {a : Addr} {vs : List V} (h : Rd H a (.lst vs)) :
    vs.length ≤ sizeLine ∧ ∃ (its : List Value) (n : Nat), Vals vs its ∧ s.heap.get? a = some { cls := .type "list", data := .seq its.toArray n } := h.ok I.hok
theorem y_add : OpR X (binaryOp .Add) (r2 X.K oadd) := by
  intro pins s σ H x y v u Q I rx ry ⟨A, d1, d2, d, h1, h2, ha, e, k⟩
  cases d1 with
  | int i =>
    cases d2 <;> simp only [oadd, Res.ok.injEq, reduceCtorEq] at e
    subst e
    exact op_add pins s σ H x y v u Q I rx ry ⟨_, _, rep_int h1, rep_int h2, k _ H (Same.refl H) (flat_rep rfl _ _)⟩
  | str i =>
    cases d2 <;> simp only [oadd, Res.ok.injEq, reduceCtorEq] at e
    split at e
    · rename_i j c
      simp only [Res.ok.injEq] at e
      subst e
      refine op_add_str pins s σ H x y v u Q I rx ry ⟨_, _, h1, h2, by rw [str_len, str_len]; exact c, ?_⟩
      rw [str_app]
      exact k _ H (Same.refl H) (flat_rep rfl _ _)
    · cases e
  | tup xs =>
    cases d2 <;> simp only [oadd, Res.ok.injEq, reduceCtorEq] at e
    rename_i ys
    split at e
    · rename_i c
      simp only [Res.ok.injEq] at e
      subst e
      obtain ⟨a, vs, rfl, q1, p1⟩ := (by simpa only [RepW, Rep] using h1 : ∃ a vs, x = .ref a ∧ SqT X.K H a vs ∧ RepL X.K A H xs vs)
      obtain ⟨b, ws, rfl, q2, p2⟩ := (by simpa only [RepW, Rep] using h2 : ∃ a vs, y = .ref a ∧ SqT X.K H a vs ∧ RepL X.K A H ys vs)
      refine op_catA pins s σ H _ _ v u Q I rx ry ⟨a, b, vs, ws, rfl, rfl, q1, q2, by rw [← p1.length, ← p2.length]; exact c, fun z => ?_, fun _ z => ?_, fun _ _ p hp => ?_⟩
      · have z1 := p1.empty.mpr z
        subst z1
        exact k _ H (Same.refl H) h2
      · have z1 := p2.empty.mpr z
        subst z1
        rw [List.append_nil] at k
        exact k _ H (Same.refl H) h1
      · exact k _ _ (new_same hp) (new_tup (p1.append p2) hp)
    · cases e
  | lst xs =>
    cases d2 <;> simp only [oadd, Res.ok.injEq, reduceCtorEq] at e
    rename_i ys
    split at e
    · rename_i c
      simp only [Res.ok.injEq] at e
      subst e
      obtain ⟨a, vs, rfl, q1, p1⟩ := h1
      obtain ⟨b, ws, rfl, q2, p2⟩ := h2
      cases rx
      cases ry
      obtain ⟨z1, its, n, rr1, e1⟩ := lst_at I q1
      obtain ⟨z2, its2, n2, rr2, e2⟩ := lst_at I q2
      have hl1 := rr1.length
      have hl2 := rr2.length
      have hl3 := p1.length
      have hl4 := p2.length
      have hsz : SZ = sizeLine := rfl
      refine PySem.P.add_list e1 e2 ?_ (by rw [List.size_toArray, List.size_toArray]; omega)
      have ea : its.toArray ++ its2.toArray = (its ++ its2).toArray := by simp
      rw [ea]
      exact ⟨.ref _, _, I.lnew (t' := s.toks) (rr1.append rr2) (by rw [List.length_append]; omega), rfl, k _ _ (new_same I.fresh) (new_lst ha (p1.append p2) I.fresh)⟩
    · cases e
  | _ => simp [oadd] at e
end
theorem n_add : NoEx2 oadd := fun x y c fs => by
  cases x <;> cases y <;> simp only [oadd] <;> first | (split <;> rfl) | rfl
theorem n_sub : NoEx2 osub := fun x y c fs => by cases x <;> cases y <;> rfl
theorem n_mul : NoEx2 omul := fun x y c fs => by
  cases x <;> cases y <;> simp only [omul] <;> first | (split <;> rfl) | rfl
theorem n_fdiv : NoEx2 ofdiv := fun x y c fs => by
  cases x <;> cases y <;> simp only [ofdiv] <;> first | (split <;> rfl) | rfl
theorem n_mod : NoEx2 omod := fun x y c fs => by
  cases x <;> cases y <;> simp only [omod] <;> first | (split <;> rfl) | rfl
theorem n_pow : NoEx2 opow := fun x y c fs => by
  cases x <;> cases y <;> simp only [opow] <;> first | (split <;> rfl) | rfl
theorem n_shl : NoEx2 oshl := fun x y c fs => by
  cases x <;> cases y <;> simp only [oshl] <;> first | (split <;> rfl) | rfl
theorem n_shr : NoEx2 oshr := fun x y c fs => by
  cases x <;> cases y <;> simp only [oshr] <;> first | (split <;> rfl) | rfl
theorem n_and : NoEx2 oand := fun x y c fs => by cases x <;> cases y <;> rfl
theorem n_xor : NoEx2 oxor := fun x y c fs => by cases x <;> cases y <;> rfl
theorem n_lt : NoEx2 olt := fun x y c fs => by cases x <;> cases y <;> rfl
theorem n_le : NoEx2 ole := fun x y c fs => by cases x <;> cases y <;> rfl
theorem n_gt : NoEx2 ogt := fun x y c fs => by cases x <;> cases y <;> rfl
theorem n_neg : NoEx1 oneg := fun x c fs => by cases x <;> rfl
theorem n_eq : NoEx2 oeq := fun x y c fs => by
  unfold oeq
  split <;> rfl
theorem n_ne : NoEx2 one := fun x y c fs => by
  unfold one
  split <;> rfl
theorem n_notin : NoEx2 onotin := fun x y c fs => by
  cases y <;> simp only [onotin] <;> first | (split <;> rfl) | rfl
end Py
/-! Tests, displays, subscripts, attributes, calls of built-ins. -/
namespace Py
open PySem L2
section
variable {X : Cx} {W : WX} {A : AS} {H0 : Base} {ow : Ow} {a b c : Expr} {ma mb mc : EM} {pos : Pos}
/-! ### truths -/
theorem bl_of {K : Frag} {A : AS} {H : Hp} {k : Bool} {v : V} (h : Rep K A H (.bl k) v) : v = .bl k := h
theorem rep_bl {K : Frag} {A : AS} {H : Hp} {k : Bool} : Rep K A H (.bl k) (.bl k) := rfl
theorem x_and {rest : List Expr} (ha : PE X a (tE X.K W ow ma)) (hb : PE X (.BoolOp .And (b :: rest) pos) (tE X.K W ow mb)) : PE X (.BoolOp .And (a :: b :: rest) pos) (tE X.K W ow (andE ma mb)) :=
  PE.of (pe_and ha hb) fun σ H Q ⟨A, H0, O, en, R, q⟩ => ⟨A, H0, O, en, R, (Out.bind q).good fun d q1 v H1 s1 r1 => by
    cases d with
    | bl k =>
      cases k with
      | true =>
        refine ⟨true, bl_of r1, ?_⟩
        rw [if_pos rfl]
        exact ⟨A, H0, O, en, R.to s1, (q1.to s1).good fun d2 q2 v2 H2 s2 r2 => q2 v2 H2 (s1.trans s2) r2⟩
      | false =>
        refine ⟨false, bl_of r1, ?_⟩
        rw [if_neg (by decide)]
        exact q1 _ _ s1 rep_bl
    | _ => exact q1.elim⟩
theorem x_one {op} (h : PE X a (tE X.K W ow ma)) : PE X (.BoolOp op [a] pos) (tE X.K W ow ma) := pe_one h
/-- not x, of a truth -/
theorem x_not (ha : PE X a (tE X.K W ow ma)) : PE X (.UnaryOp .Not a pos) (tE X.K W ow (un onb ma)) :=
  PE.of (pe_not ha) fun σ H Q ⟨A, H0, O, en, R, q⟩ => ⟨A, H0, O, en, R, (Out.bind q).good fun d q1 v H1 s1 r1 => by
    cases d with
    | bl k => exact ⟨k, bl_of r1, q1 _ _ s1 rep_bl⟩
    | _ => exact q1.elim⟩
theorem chain_of {f g : D → D → Res D} (hf : NoEx2 f) (hg : NoEx2 g) {σ : L2.St} {H : Hp} {Q : VK} (h : tE X.K W ow (chain f g ma mb mc) σ H Q) : tChain (r2 X.K f) (r2 X.K g) (tW X.K W ow ma) (tW X.K W ow mb) (tW X.K W ow mc) σ H Q := by
  obtain ⟨A, H0, O, en, R, q⟩ := h
  refine ⟨A, H0, O, en, R, (Out.bind q).good fun d1 q1 v1 H1 s1 r1 => ⟨A, H0, O, en, R.to s1, ((Out.bind q1).to s1).good fun d2 q2 v2 H2 s2 r2 => ?_⟩⟩
  have R2 := (R.to s1).to s2
  have q3 := Out.bind q2
  cases e : f d1 d2 with
  | exc cc fs => exact (hf.exc e).elim
  | pick _ _ => exact (hf.pick e).elim
  | stuck =>
    rw [e] at q3
    exact q3.elim
  | ok d =>
    rw [e] at q3
    refine ⟨_, d1, d2, d, r1.move s2, r2, R2.there, e, fun v3 H3 s3 r3 => ?_⟩
    have q4 : Out _ _ _ := q3
    cases d with
    | bl k =>
      cases k with
      | false =>
        refine ⟨false, bl_of r3, ?_⟩
        rw [if_neg (by decide)]
        exact q4 _ _ ((s1.trans s2).trans s3) rep_bl
      | true =>
        refine ⟨true, bl_of r3, ?_⟩
        rw [if_pos rfl]
        refine ⟨A, H0, O, en, R2.to s3, ((Out.bind q4).to ((s1.trans s2).trans s3)).good fun d4 q5 v4 H4 s4 r4 => ?_⟩
        exact r2_of (W := W) (O := O) (σ := σ) (H0 := H0) hg (r2.move (s3.trans s4)) r4 ((R2.to s3).to s4).there (q5.good fun d k v H' s' r => k v H' ((((s1.trans s2).trans s3).trans s4).trans s') r)
    | _ => exact q4.elim
theorem x_chain {op op' : CmpOp} {f g : D → D → Res D} (ho : OpR X (compareOp op) (r2 X.K f)) (ho' : OpR X (compareOp op') (r2 X.K g)) (hf : NoEx2 f) (hg : NoEx2 g)
    (ha : PE X a (tW X.K W ow ma)) (hb : PE X b (tW X.K W ow mb)) (hc : PE X c (tW X.K W ow mc))
    (hm : lastMarks [op, op'] [b, c] = false := by with_unfolding_all rfl) : PE X (.Compare a [op, op'] [b, c] pos) (tE X.K W ow (chain f g ma mb mc)) :=
  PE.of (pe_chain ho ho' ha hb hc hm) fun _ _ _ h => chain_of hf hg h
/-! ### tests -/
theorem trim {K : Frag} {A : AS} {H : Hp} {d : D} {v : V} {k : Bool} (h : RepW K A H d v) (e : truthy d = .ok k) : TruV K v H k := by
  cases d with
  | non =>
    simp only [truthy, Res.ok.injEq] at e
    have h' : v = .non := h
    subst h' e
    rfl
  | bl b =>
    simp only [truthy, Res.ok.injEq] at e
    have h' : v = .bl b := h
    subst h' e
    rfl
  | int i =>
    simp only [truthy, Res.ok.injEq] at e
    have h' : v = .int i := h
    subst h' e
    rfl
  | str s =>
    simp only [truthy] at e
    split at e
    · rename_i cc
      simp only [Res.ok.injEq] at e
      have h' : v = .str (Str.ofString s) := h
      subst h' e
      refine ⟨by rw [str_len]; exact cc, ?_⟩
      rw [str_len]
      cases hh : s.length with
      | zero => rfl
      | succ n =>
        have e1 : (((n + 1 : Nat) : Int) == 0) = false := beq_eq_false_iff_ne.mpr (by omega)
        have e2 : ((n + 1 : Nat) == 0) = false := rfl
        unfold bne
        rw [e1, e2]
    · cases e
  | tup xs =>
    simp only [truthy, Res.ok.injEq] at e
    obtain ⟨a, vs, rfl, q, r⟩ := (by simpa only [RepW, Rep] using h : ∃ a vs, v = .ref a ∧ SqT K H a vs ∧ RepL K A H xs vs)
    refine .inr (.inl ⟨vs, q, ?_⟩)
    subst e
    have hl := r.length
    cases xs <;> cases vs <;> first | rfl | simp at hl
  | lst xs =>
    simp only [truthy, Res.ok.injEq] at e
    obtain ⟨a, vs, rfl, q, r⟩ := h
    refine .inl ⟨vs, .inl q, ?_⟩
    subst e
    have hl := r.length
    cases xs <;> cases vs <;> first | rfl | simp at hl
  | dic _ => simp [truthy] at e
  | ins _ _ => simp [truthy] at e
  | drw _ => simp [truthy] at e
theorem no_truthy : ∀ d, (truthy d).isP = true := fun d => by
  cases d <;> simp only [truthy] <;> first | (split <;> rfl) | rfl
/-- any expression as a test -/
theorem t_tst (ha : PE X a (tW X.K W ow ma)) (he : ∀ whole, isTrue a X.env whole = (do let v ← whole; standAt a.pos; holding [v] (PySem.truthy v))) : PT X a (tT X.K W ow (tst ma)) :=
  PT.of (pt_truth ha he) fun σ H Q ⟨A, H0, O, en, R, q⟩ => ⟨A, H0, O, en, R, (Out.bind q).good fun d q1 v H1 s1 r1 => by
    cases e : Py.truthy d with
    | ok k =>
      rw [e] at q1
      exact ⟨k, trim r1 e, q1 H1 s1⟩
    | exc c fs =>
      have := no_truthy d
      rw [e] at this
      cases this
    | pick _ _ =>
      have := no_truthy d
      rw [e] at this
      cases this
    | stuck =>
      rw [e] at q1
      exact q1.elim⟩
/-- what gives a truth, as a test -/
def Bl (m : EM) : Prop := ∀ e d, Res.leaf d (m e) → ∃ k, d = .bl k
theorem Bl.bin {f : D → D → Res D} (hf : NoEx2 f) (h : ∀ x y d, f x y = .ok d → ∃ k, d = .bl k) {ma mb : EM} : Bl (bin f ma mb) := fun e d q => by
  obtain ⟨d1, _, q⟩ := leaf_bind q
  obtain ⟨d2, _, q⟩ := leaf_bind q
  exact h _ _ _ (leaf_isP (hf _ _ () ()) q)
theorem tst_of {m : EM} (hm : Bl m) {σ : L2.St} {H : Hp} {Q : Bool → Hp → Prop} (h : tT X.K W ow (tst m) σ H Q) : tE X.K W ow m σ H fun x H' => ∃ k, x = .bl k ∧ Q k H' := by
  obtain ⟨A, H0, O, en, R, q⟩ := h
  refine ⟨A, H0, O, en, R, (Out.bind q).imp (fun d e q1 v H1 s1 r1 => ?_) fun _ _ x => x⟩
  obtain ⟨k, rfl⟩ := hm _ _ e
  exact ⟨k, bl_of r1, q1 H1 s1⟩
/-- a comparison as a test -/
theorem t_cmp {op : CmpOp} {f : D → D → Res D} (ho : OpR X (compareOp op) (r2 X.K f)) (hf : NoEx2 f) (hb2 : ∀ x y d, f x y = .ok d → ∃ k, d = .bl k) (ha : PE X a (tW X.K W ow ma)) (hb : PE X b (tW X.K W ow mb)) (hm : behindInMarks op b = false) :
    PT X (.Compare a [op] [b] pos) (tT X.K W ow (tst (bin f ma mb))) :=
  PT.of (pt_cmpR ho ha hb hm) fun _ _ _ h => two_of hf (tst_of (Bl.bin hf hb2) h)
theorem b_lt : ∀ x y d, olt x y = .ok d → ∃ k, d = .bl k := fun x y d h => by
  cases x <;> cases y <;> simp only [olt, Res.ok.injEq, reduceCtorEq] at h
  exact ⟨_, h.symm⟩
theorem b_le : ∀ x y d, ole x y = .ok d → ∃ k, d = .bl k := fun x y d h => by
  cases x <;> cases y <;> simp only [ole, Res.ok.injEq, reduceCtorEq] at h
  exact ⟨_, h.symm⟩
theorem b_gt : ∀ x y d, ogt x y = .ok d → ∃ k, d = .bl k := fun x y d h => by
  cases x <;> cases y <;> simp only [ogt, Res.ok.injEq, reduceCtorEq] at h
  exact ⟨_, h.symm⟩
theorem b_eq : ∀ x y d, oeq x y = .ok d → ∃ k, d = .bl k := fun x y d h => by
  unfold oeq at h
  split at h <;> simp only [Res.ok.injEq, reduceCtorEq] at h
  exact ⟨_, h.symm⟩
theorem b_ne : ∀ x y d, Py.one x y = .ok d → ∃ k, d = .bl k := fun x y d h => by
  unfold Py.one at h
  split at h <;> simp only [Res.ok.injEq, reduceCtorEq] at h
  exact ⟨_, h.symm⟩
theorem b_notin : ∀ x y d, onotin x y = .ok d → ∃ k, d = .bl k := fun x y d h => by
  cases y <;> simp only [onotin, reduceCtorEq] at h <;> split at h <;> simp only [Res.ok.injEq, reduceCtorEq] at h <;> exact ⟨_, h.symm⟩
theorem t_and1 {t : TM} (ha : PT X a (tT X.K W ow t)) : PW X (.BoolOp .And [a] pos) (tT X.K W ow t) := pw_and1 ha
theorem t_or1 {t : TM} (ha : PT X a (tT X.K W ow t)) : PW X (.BoolOp .Or [a] pos) (tT X.K W ow t) := pw_or1 ha
theorem t_and {t u : TM} {rest : List Expr} (ha : PT X a (tT X.K W ow t)) (hb : PW X (.BoolOp .And (b :: rest) pos) (tT X.K W ow u)) : PW X (.BoolOp .And (a :: b :: rest) pos) (tT X.K W ow (andT t u)) :=
  PW.of (pw_and ha hb) fun σ H Q ⟨A, H0, O, en, R, q⟩ => ⟨A, H0, O, en, R, (Out.bind q).good fun k q1 H1 s1 => by
    cases k with
    | true =>
      rw [if_pos rfl] at q1 ⊢
      exact ⟨A, H0, O, en, R.to s1, (q1.to s1).good fun d2 q2 H2 s2 => q2 H2 (s1.trans s2)⟩
    | false =>
      rw [if_neg (by decide)] at q1 ⊢
      exact q1 H1 s1⟩
theorem t_or {t u : TM} {rest : List Expr} (ha : PT X a (tT X.K W ow t)) (hb : PW X (.BoolOp .Or (b :: rest) pos) (tT X.K W ow u)) : PW X (.BoolOp .Or (a :: b :: rest) pos) (tT X.K W ow (orT t u)) :=
  PW.of (pw_or ha hb) fun σ H Q ⟨A, H0, O, en, R, q⟩ => ⟨A, H0, O, en, R, (Out.bind q).good fun k q1 H1 s1 => by
    cases k with
    | false =>
      rw [if_neg (by decide)] at q1 ⊢
      exact ⟨A, H0, O, en, R.to s1, (q1.to s1).good fun d2 q2 H2 s2 => q2 H2 (s1.trans s2)⟩
    | true =>
      rw [if_pos rfl] at q1 ⊢
      exact q1 H1 s1⟩
theorem t_not {t : TM} (ha : PT X a (tT X.K W ow t)) : PT X (.UnaryOp .Not a pos) (tT X.K W ow (notT t)) :=
  PT.of (pt_not ha) fun σ H Q ⟨A, H0, O, en, R, q⟩ => ⟨A, H0, O, en, R, (Out.bind q).good fun k q1 H1 s1 => q1 H1 s1⟩
/-! ### is None, is True -/
theorem isN_v {K : Frag} {A : AS} {H : Hp} {d : D} {v : V} (h : RepW K A H d v) : decide (v = .non) = isNon d := by
  cases d with
  | non =>
    have h' : v = .non := h
    subst h'
    rfl
  | bl b =>
    have h' : v = .bl b := h
    subst h'
    rfl
  | int b =>
    have h' : v = .int b := h
    subst h'
    rfl
  | str b =>
    have h' : v = .str (Str.ofString b) := h
    subst h'
    rfl
  | tup xs =>
    obtain ⟨a, vs, rfl, q, r⟩ := (by simpa only [RepW, Rep] using h : ∃ a vs, v = .ref a ∧ SqT K H a vs ∧ RepL K A H xs vs)
    rfl
  | lst xs =>
    obtain ⟨a, vs, rfl, q, r⟩ := h
    rfl
  | dic _ _ =>
    obtain ⟨a, rfl, _⟩ := h
    rfl
  | ins _ _ =>
    obtain ⟨a, dx, fvs, rfl, _⟩ := h
    rfl
  | drw q =>
    cases q with
    | inl k =>
      obtain ⟨a, a0, xs, rfl, _⟩ := (by simpa only [RepW, Rep] using h : ∃ a a0 xs, v = .ref a ∧ ¬ A a ∧ H a = some (poolO k a a0) ∧ ¬ A a0 ∧ Rd H a0 (.lst ((xs : List Int).map V.int)))
      rfl
    | inr q =>
      obtain ⟨rfl, _⟩ := (by simpa only [RepW, Rep] using h : v = .ref q.1 ∧ ¬ A q.1 ∧ Rd H q.1 (.lst (q.2.map V.int)))
      rfl
theorem x_isN {j pos'} (ha : PE X a (tW X.K W ow ma)) : PE X (.Compare a [.Is] [.Constant .none j pos'] pos) (tE X.K W ow (un oisN ma)) :=
  PE.of (pe_cmp (pc_isN ha)) fun σ H Q ⟨A, H0, O, en, R, q⟩ => ⟨A, H0, O, en, R, (Out.bind q).good fun d q1 v H1 s1 r1 => by
    dsimp only
    rw [isN_v r1]
    exact q1 _ _ s1 rep_bl⟩
theorem Bl.un {f : D → Res D} (hf : NoEx1 f) (h : ∀ x d, f x = .ok d → ∃ k, d = .bl k) {ma : EM} : Bl (un f ma) := fun e d q => by
  obtain ⟨d1, _, q⟩ := leaf_bind q
  exact h _ _ (leaf_isP (hf _ () ()) q)
theorem b_isN : ∀ x d, oisN x = .ok d → ∃ k, d = .bl k := fun x d h => ⟨_, (Res.ok.inj h).symm⟩
theorem b_notN : ∀ x d, onotN x = .ok d → ∃ k, d = .bl k := fun x d h => ⟨_, (Res.ok.inj h).symm⟩
theorem t_isN {j pos'} (ha : PE X a (tW X.K W ow ma)) : PT X (.Compare a [.Is] [.Constant .none j pos'] pos) (tT X.K W ow (tst (un oisN ma))) :=
  PT.of (pt_cmp (pc_isN ha)) fun σ H Q h => by
    obtain ⟨A, H0, O, en, R, q⟩ := tst_of (Bl.un (fun _ _ _ => rfl) b_isN) h
    refine ⟨A, H0, O, en, R, (Out.bind q).good fun d q1 v H1 s1 r1 => ?_⟩
    dsimp only
    rw [isN_v r1]
    exact q1 _ _ s1 rep_bl
theorem t_notN {j pos'} (ha : PE X a (tW X.K W ow ma)) : PT X (.Compare a [.IsNot] [.Constant .none j pos'] pos) (tT X.K W ow (tst (un onotN ma))) :=
  PT.of (pt_cmp (pc_notN ha)) fun σ H Q h => by
    obtain ⟨A, H0, O, en, R, q⟩ := tst_of (Bl.un (fun _ _ _ => rfl) b_notN) h
    refine ⟨A, H0, O, en, R, (Out.bind q).good fun d q1 v H1 s1 r1 => ?_⟩
    dsimp only
    rw [isN_v r1]
    exact q1 _ _ s1 rep_bl
end
end Py
/-! Displays, subscripts, attributes, calls of built-ins. -/
namespace Py
open PySem L2 PySem.Spec PyProof.Rows
/-- values and data, one by one -/
theorem paired_rep {K : Frag} {A : AS} {H : Hp} : ∀ {vs : List V} {ds : List D}, Paired (fun v d => Rep K A H d v) vs ds → RepL K A H ds vs
  | _, _, .nil => by simp [RepL]
  | _, _, .cons r t => by
    simp only [RepL]
    exact ⟨_, _, rfl, r, paired_rep t⟩
section
variable {X : Cx} {W : WX} {A : AS} {H0 : Base} {ow : Ow} {a b c e : Expr} {es : List Expr} {m ma mb mc : EM} {am : AM} {pos : Pos}
/-! ### argument lists -/
abbrev aE (K : Frag) := tA (Rep K) K
theorem xa_nil {R : RR} : PA X [] (tA R X.K W ow argN) := PA.of pa_nil fun σ H Q ⟨A, H0, O, en, R', q⟩ => q [] H (Same.refl H) .nil
theorem xa_cons (ha : PE X e (tE X.K W ow m)) (hr : PA X es (aE X.K W ow am)) (hs : starEach (e :: es) X.env = (false, eval e X.env) :: starEach es X.env := by rfl) : PA X (e :: es) (aE X.K W ow (argC m am)) :=
  PA.of (pa_cons ha hr hs) fun σ H Q ⟨A, H0, O, en, R, q⟩ => ⟨A, H0, O, en, R, (Out.bind q).good fun d q1 v H1 s1 r1 => ⟨A, H0, O, en, R.to s1, ((Out.bind q1).to s1).good fun ds q2 vs H2 s2 r2 =>
    q2 (v :: vs) H2 (s1.trans s2) (.cons (Rep.move (Mv.same s2) _ _ r1) r2)⟩⟩
/-! ### displays -/
theorem x_tup {x1} (h : PA X es (aE X.K W ow am)) : PE X (.Tuple es x1 pos) (tE X.K W ow (tupE am)) :=
  PE.of (pe_tup h) fun σ H Q ⟨A, H0, O, en, R, q⟩ => ⟨A, H0, O, en, R, (Out.bind q).good fun ds q1 vs H1 s1 r1 => by
    have rl := paired_rep r1
    unfold chk at q1
    split at q1
    · rename_i z
      exact ⟨by rw [← rl.length]; exact z, fun p hp => q1 _ _ (s1.trans (new_same hp)) (new_tup rl hp)⟩
    · exact q1.elim⟩
theorem f_lst (h : PA X es (aE X.K W ow am)) : PE X (.List es pos) (tF X.K W ow (lstE am)) :=
  PE.of (pe_lst h) fun σ H Q ⟨A, H0, O, en, R, q⟩ => ⟨A, H0, O, en, R, (Out.bind q).good fun ds q1 vs H1 s1 r1 => by
    have rl := paired_rep r1
    unfold chk at q1
    split at q1
    · rename_i z
      refine ⟨by rw [← rl.length]; exact z, fun p hp => q1 p _ (s1.free hp) (s1.trans (new_same hp)) ⟨vs, upd_same, ?_⟩⟩
      refine RepL.move ⟨fun b hb => ?_, fun b o e _ => new_same hp b o e⟩ _ _ rl
      rcases hb with hb | rfl
      · exact .inl hb
      · exact .inr hp
    · exact q1.elim⟩
/-! ### subscripts -/
def r2n (K : Frag) (f : D → D → Res D) : R2 := fun x y H Q => ∃ A d1 d2 d, isDic d1 = false ∧ RepW K A H d1 x ∧ RepW K A H d2 y ∧ (∀ a, A a → H a ≠ none) ∧ f d1 d2 = .ok d ∧ ∀ v H', Same H H' → Rep K A H' d v → Q v H'
theorem y_idx0 : IxR X (r2n X.K oidx) := by
  intro value slice pins s σ H x y v u Q I rx ry ⟨A, d1, d2, d, hnd, h1, h2, ha, e, k⟩ hs
  cases d1 with
  | lst xs =>
    cases d2 <;> simp only [oidx, reduceCtorEq] at e
    rename_i i
    obtain ⟨a, vs, rfl, q, r⟩ := h1
    unfold opt at e
    split at e
    · rename_i d' he
      simp only [Res.ok.injEq] at e
      subst e
      unfold atI at he
      cases hj : ixN xs.length i with
      | none => rw [hj] at he; cases he
      | some j =>
        rw [hj] at he
        obtain ⟨w, hw, rw'⟩ := r.get (show xs[j]? = some d' from he)
        refine ix_list value slice pins s σ H _ _ v u Q I rx ry ⟨a, vs, i, w, rfl, h2, .inl q, ?_, k w H (Same.refl H) rw'⟩ hs
        unfold atI
        rw [← r.length, hj]
        exact hw
    · cases e
  | tup xs =>
    cases d2 <;> simp only [oidx, reduceCtorEq] at e
    rename_i i
    obtain ⟨a, vs, rfl, q, r⟩ := (by simpa only [RepW, Rep] using h1 : ∃ a vs, x = .ref a ∧ SqT X.K H a vs ∧ RepL X.K A H xs vs)
    unfold opt at e
    split at e
    · rename_i d' he
      simp only [Res.ok.injEq] at e
      subst e
      unfold atI at he
      cases hj : ixN xs.length i with
      | none => rw [hj] at he; cases he
      | some j =>
        rw [hj] at he
        obtain ⟨w, hw, rw'⟩ := r.get (show xs[j]? = some d' from he)
        refine ix_tup value slice pins s σ H _ _ v u Q I rx ry ⟨a, vs, i, w, rfl, h2, q, ?_, k w H (Same.refl H) rw'⟩ hs
        unfold atI
        rw [← r.length, hj]
        exact hw
    · cases e
  | str z =>
    cases d2 <;> simp only [oidx, reduceCtorEq] at e
    rename_i i
    split at e
    · rename_i hz
      have h1' : x = .str (Str.ofString z) := h1
      have h2' : y = .int i := h2
      subst h1' h2'
      unfold opt at e
      split at e
      · rename_i d' he
        simp only [Res.ok.injEq] at e
        subst e
        unfold atI at he
        cases hj : ixN z.toList.length i with
        | none => rw [hj] at he; cases he
        | some j =>
          rw [hj] at he
          have he1 : Option.map (fun c => D.str (String.ofList [c])) (z.toList[j]?) = some d' := he
          cases hc : z.toList[j]? with
          | none => rw [hc] at he1; cases he1
          | some ch =>
            rw [hc] at he1
            have he2 : D.str (String.ofList [ch]) = d' := Option.some.inj he1
            subst he2
            have e1 : (Str.ofString z).cps.toList = z.toList.map Char.toNat := by rw [Str.ofString_eq_toList]
            refine ix_str value slice pins s σ H _ _ v u Q I rx ry ⟨_, i, ch.toNat, rfl, rfl, by rw [str_len]; exact hz, ?_, ?_⟩ hs
            · unfold atI
              rw [e1, List.length_map, hj]
              show (List.map Char.toNat z.toList)[j]? = _
              rw [List.getElem?_map, hc]
              rfl
            · have e2 : Str.ofString (String.ofList [ch]) = ⟨#[ch.toNat]⟩ := by
                rw [Str.ofString_eq_toList, String.toList_ofList]
                rfl
              rw [← e2]
              exact k _ H (Same.refl H) rfl
      · cases e
    · cases e
  | dic t kvs => simp [isDic] at hnd
  | _ => simp [oidx] at e
theorem y_idx (hu : X.A.units + 16 < cLine) : IxR X (r2 X.K oidx) := by
  intro value slice pins s σ H x y v u Q I rx ry ⟨A, d1, d2, d, h1, h2, ha, e, k⟩ hs
  cases hnd : isDic d1 with
  | false => exact y_idx0 value slice pins s σ H x y v u Q I rx ry ⟨A, d1, d2, d, hnd, h1, h2, ha, e, k⟩ hs
  | true =>
    cases d1 <;> simp only [isDic, reduceCtorEq] at hnd
    rename_i t kvs
    simp only [oidx] at e
    split at e
    · rename_i hk
      obtain ⟨a, rfl, g⟩ := h1
      cases (show v = Value.ref a from rx)
      have h2' : Rep X.K A H d2 y := by
        cases d2 <;> first | exact h2 | (cases t <;> simp [keyOk] at hk)
      unfold opt at e
      split at e
      · rename_i d' hf
        simp only [Res.ok.injEq] at e
        subst e
        exact tail_any (dic_type I g) slot_dict_getitem.lookup (dic_get hu I g hk h2' ry hf fun v w' s' I' r' rv => ⟨v, H, I', r', k v H (Same.refl H) rv⟩) hs
      · cases e
    · cases e
theorem n_idx : NoEx2 oidx := fun x y c fs => by
  have ho : ∀ o, (opt o).isP = true := fun o => by cases o <;> rfl
  cases x <;> cases y <;> simp only [oidx] <;> first | rfl | exact ho _ | (split <;> first | exact ho _ | rfl)
theorem x_idx (hi : IxR X (r2 X.K oidx)) (ha : PE X a (tW X.K W ow ma)) (hb : PE X b (tW X.K W ow mb)) (hs : PlainIx b := by exact fun _ _ => rfl) : PE X (.Subscript a b pos) (tE X.K W ow (bin oidx ma mb)) :=
  PE.of (pe_ix hi ha hb hs) fun _ _ _ h => two_of n_idx h
/-! ### slices -/
theorem RepL.cut {K : Frag} {A : AS} {H : Hp} {ds : List D} {vs : List V} (h : RepL K A H ds vs) (lo hi : Option Int) : RepL K A H (Py.cut ds lo hi) (cutV vs lo hi) := by
  unfold Py.cut cutV
  rw [h.length]
  exact (h.drop _).take _
def rS (K : Frag) : V → Option Int → Option Int → Hp → VK → Prop := fun x lo hi H Q => ∃ A d1 d, RepW K A H d1 x ∧ (∀ a, A a → H a ≠ none) ∧ oslc d1 lo hi = .ok d ∧ ∀ v H', Same H H' → Rep K A H' d v → Q v H'
theorem cut_all {α : Type} {xs : List α} {lo hi : Option Int} (h : HT.sIx xs.length 0 lo = 0 ∧ HT.sIx xs.length xs.length hi = xs.length) : Py.cut xs lo hi = xs := by
  unfold Py.cut
  rw [h.1, h.2]
  simp
theorem y_slc : SlR X (rS X.K) := by
  intro pins s σ H x v vl vu lo hi sl Q I rx hs pl' pu h
  obtain ⟨A, d1, d, h1, ha, e, k⟩ := h
  cases d1 with
  | lst xs =>
    simp only [oslc, Res.ok.injEq] at e
    subst e
    obtain ⟨a, vs, rfl, q, r⟩ := h1
    exact sl_list pins s σ H _ v vl vu lo hi sl Q I rx hs pl' pu ⟨a, vs, rfl, .inl q, fun p hp => k _ _ (new_same hp) (new_lst ha (r.cut lo hi) hp)⟩
  | tup xs =>
    simp only [oslc, Res.ok.injEq] at e
    subst e
    obtain ⟨a, vs, rfl, q, r⟩ := (by simpa only [RepW, Rep] using h1 : ∃ a vs, x = .ref a ∧ SqT X.K H a vs ∧ RepL X.K A H xs vs)
    refine sl_tupA pins s σ H _ v vl vu lo hi sl Q I rx hs pl' pu ⟨a, vs, rfl, q, fun z => ?_, fun _ p hp => k _ _ (new_same hp) (new_tup (r.cut lo hi) hp)⟩
    rw [← r.length] at z
    rw [cut_all z] at k
    exact k _ H (Same.refl H) h1
  | str z =>
    simp only [oslc] at e
    split at e
    · rename_i hz
      simp only [Res.ok.injEq] at e
      subst e
      have h1' : x = .str (Str.ofString z) := h1
      subst h1'
      refine sl_str pins s σ H _ v vl vu lo hi sl Q I rx hs pl' pu ⟨_, rfl, by rw [str_len]; exact hz, ?_⟩
      have e1 : cutS (Str.ofString z) lo hi = Str.ofString (String.ofList (Py.cut z.toList lo hi)) := by
        rw [Str.ofString_eq_toList (String.ofList _), String.toList_ofList]
        unfold cutS Py.cut
        rw [str_len]
        rw [Str.ofString_eq_toList]
        simp [List.map_take, List.map_drop, String.length_toList]
      rw [e1]
      exact k _ H (Same.refl H) rfl
    · cases e
  | _ => simp [oslc] at e
end
end Py
/-! Slices as expressions, attributes, calls of built-ins, isinstance. -/
namespace Py
open PySem L2
/-! ### own classes: what isinstance and attributes ask -/
structure KitC (K : Frag) (cs : List String) (c : String) : Prop where
  cl : Cls K (ca K c)
  ha : PySem.W.findIn K (.ref (ca K c)) "__class__" = some (some (.builtin "object.__class__"))
  hn : PySem.W.specialIn K (.builtin "object.__class__") "__get__" = some (some (.builtin "getset_descriptor.__get__"))
  ht : PySem.W.takesIn K (.builtin "object.__class__") = some true
  hm : PySem.W.mroIn K (ca K c) (.type "object") = some true
  oo : ∀ d ∈ cs, PySem.W.kitOne K (.ref (ca K c)) (.ref (ca K d)) = some (decide (c = d))
  ob : ∀ T ∈ tyNames, PySem.W.kitOne K (.ref (ca K c)) (.type T) = some false
  bo : ∀ T ∈ tyNames, PySem.W.kitOne K (.type T) (.ref (ca K c)) = some false
def KitF (K : Frag) (cs : List String) : Prop := ∀ c ∈ cs, KitC K cs c
theorem kit_of_b {K : Frag} {cs : List String} (h : kitB K cs = true) : KitF K cs := fun c hc => by
  have h1 := List.all_eq_true.mp h c hc
  simp only [Bool.and_eq_true, decide_eq_true_eq, List.all_eq_true] at h1
  obtain ⟨a1, a2, a3, a4, a5, a6, a7⟩ := h1
  exact ⟨He.cls_ok a1, a2, a3, a4, a5, a6, fun T hT => (a7 T hT).1, fun T hT => (a7 T hT).2⟩
def tyN : Ty → String
  | .non => "NoneType" | .bl => "bool" | .int => "int" | .str => "str" | .tup => "tuple" | .lst => "list" | .dic => "dict" | .cls c => c
def tyV (K : Frag) : Ty → V
  | .cls c => .ref (ca K c)
  | t => .ty (tyN t)
def tyU (K : Frag) : Ty → Value
  | .cls c => .ref (ca K c)
  | t => .type (tyN t)
theorem ty_cls (K : Frag) (t : Ty) : ClsV (tyV K t) (tyU K t) := by
  cases t <;> first | exact .ty _ | exact .own _
theorem isI_ty (t : Ty) (d : D) (h : t ≠ .non) : isI t d = (decide (t = tyOf d) || (decide (tyOf d = .bl) && decide (t = .int))) := by
  cases d <;> cases t <;> simp [isI, tyOf] at h ⊢
theorem kit_one {K : Frag} {cs : List String} (F : KitF K cs) {t : Ty} {d : D} (h1 : inCs cs t = true) (h2 : inCs cs (tyOf d) = true) (hn : t ≠ .non) : PySem.W.kitOne K (tyU K (tyOf d)) (tyU K t) = some (isI t d) := by
  rw [isI_ty t d hn]
  cases ht : t with
  | cls c =>
    subst ht
    have hc : c ∈ cs := by simpa [inCs] using h1
    cases hd : tyOf d with
    | cls c' =>
      rw [hd] at h2
      have hc' : c' ∈ cs := by simpa [inCs] using h2
      have := (F c' hc').oo c hc
      show PySem.W.kitOne K (.ref (ca K c')) (.ref (ca K c)) = _
      rw [this]
      by_cases q : c = c'
      · subst q
        simp
      · have q2 : ¬ c' = c := fun z => q z.symm
        simp [q, q2]
    | _ =>
      show PySem.W.kitOne K (.type _) (.ref (ca K c)) = _
      rw [(F c hc).bo _ (by decide)]
      simp
  | non => exact absurd ht hn
  | _ =>
    cases hd : tyOf d with
    | cls c' =>
      rw [hd] at h2
      have hc' : c' ∈ cs := by simpa [inCs] using h2
      show PySem.W.kitOne K (.ref (ca K c')) (.type _) = _
      rw [(F c' hc').ob _ (by decide)]
      simp
    | _ => exact L2.kit_ty (by rw [← show tyN _ = _ from rfl]; decide +kernel)
theorem tyx_of {K : Frag} {cs : List String} (F : KitF K cs) {A : AS} {H : Hp} {d : D} {v : V} (h : RepW K A H d v) (h2 : inCs cs (tyOf d) = true) : TyX K H v (tyU K (tyOf d)) := by
  cases d with
  | non =>
    have h' : v = .non := h
    subst h'
    exact .base .non
  | bl b =>
    have h' : v = .bl b := h
    subst h'
    exact .base (.bl _)
  | int b =>
    have h' : v = .int b := h
    subst h'
    exact .base (.int _)
  | str b =>
    have h' : v = .str (Str.ofString b) := h
    subst h'
    exact .base (.str _)
  | tup xs =>
    obtain ⟨a, vs, rfl, q, r⟩ := (by simpa only [RepW, Rep] using h : ∃ a vs, v = .ref a ∧ SqT K H a vs ∧ RepL K A H xs vs)
    rcases q with (q | ⟨o, q⟩) | ⟨o, its, n, q1, q2, _⟩
    · exact .base (.tup q)
    · exact .fTuple q
    · exact .kTuple q1 q2
  | lst xs =>
    obtain ⟨a, vs, rfl, q, r⟩ := h
    rcases q with q | ⟨o, q⟩
    · exact .base (.lst q)
    · exact .base (.frz q)
  | dic _ _ => simp [inCs, tyOf] at h2
  | drw _ => simp [inCs, tyOf] at h2
  | ins c fs =>
    obtain ⟨a, dx, fvs, rfl, q, _⟩ := h
    have hc : c ∈ cs := by simpa [inCs, tyOf] using h2
    have k := F c hc
    exact .base (.ins q k.cl k.ha k.hn k.ht k.hm)
/-- isinstance(x, (t1, t2, ..)) -/
theorem n_isi {cs : List String} {ts : List Ty} : NoEx1 (oisi cs ts) := fun x c fs => by
  unfold oisi
  split <;> rfl
theorem isi_ok {cs : List String} {ts : List Ty} {d r : D} (h : oisi cs ts d = .ok r) : inCs cs (tyOf d) = true ∧ (∀ t ∈ ts, inCs cs t = true ∧ t ≠ .non) ∧ r = .bl (ts.any fun t => isI t d) := by
  unfold oisi at h
  split at h
  · rename_i c
    simp only [Bool.and_eq_true, List.all_eq_true, decide_eq_true_eq] at c
    simp only [Res.ok.injEq] at h
    exact ⟨c.1, c.2, h.symm⟩
  · cases h
theorem kit_any {K : Frag} {cs : List String} (F : KitF K cs) {d : D} (h2 : inCs cs (tyOf d) = true) : ∀ {ts : List Ty}, (∀ t ∈ ts, inCs cs t = true ∧ t ≠ .non) → PySem.W.kitAny K (tyU K (tyOf d)) (ts.map (tyU K)) = some (ts.any fun t => isI t d)
  | [], _ => rfl
  | t :: ts, h => by
    obtain ⟨a1, a2⟩ := h t (by simp)
    simp only [List.map_cons, List.any_cons]
    refine L2.kitAny_cons (kit_one F a1 h2 a2) (fun e => ?_) fun e => by rw [e]; rfl
    rw [e, Bool.false_or]
    exact kit_any F h2 fun t' h' => h t' (by simp [h'])
theorem RepL.reverse {K : Frag} {A : AS} {H : Hp} : ∀ {ds : List D} {vs : List V}, RepL K A H ds vs → RepL K A H ds.reverse vs.reverse
  | [], vs, h => by
    simp only [RepL] at h
    subst h
    simp [RepL]
  | d :: ds, vs, h => by
    simp only [RepL] at h
    obtain ⟨v, r, rfl, h1, h2⟩ := h
    simp only [List.reverse_cons]
    exact (RepL.reverse h2).append (RepL.one h1)
section
variable {X : Cx} {W : WX} {A : AS} {H0 : Base} {ow : Ow} {a b c e : Expr} {es : List Expr} {m ma mb mc : EM} {am : AM} {pos : Pos}
theorem x_isi1 {cs : List String} {t : Ty} {x : Str} {p : Pos} (hx : x = "isinstance") (F : KitF X.K cs) (hg : Gl X x) (hm : X.mg x = none) (ha : PE X a (tW X.K W ow ma)) (hb : PE X b (tC (tyV X.K t)))
    (hs : starEach [a, b] X.env = (false, eval a X.env) :: starEach [b] X.env := by rfl) (hs2 : starEach [b] X.env = [(false, eval b X.env)] := by rfl) (hpl : (backTo pos (starEach [b] X.env)).any (·.1) = false := by rfl) :
    PE X (.Call (.Name x p) [a, b] [] pos) (tE X.K W ow (un (oisi cs [t]) ma)) := by
  subst hx
  refine PE.of (pe_callB call_isi hg hm (by decide +kernel) (pa_cons ha (pa_cons hb pa_nil hs2) hs) (by decide) (by decide) hs hpl) fun σ H Q ⟨A, H0, O, en, R, q⟩ => ⟨A, H0, O, en, R, (Out.bind q).good fun d q1 v H1 s1 r1 => ?_⟩
  cases e : oisi cs [t] d with
  | exc _ _ =>
    rw [e] at q1
    exact absurd (e ▸ n_isi (cs := cs) d () () : (Res.exc _ _ : Res D).isP = true) (by simp [Res.isP])
  | pick _ _ =>
    exact absurd (e ▸ n_isi (cs := cs) d () () : (Res.pick _ _ : Res D).isP = true) (by simp [Res.isP])
  | stuck =>
    rw [e] at q1
    exact q1.elim
  | ok r =>
    rw [e] at q1
    obtain ⟨h1, h2, rfl⟩ := isi_ok e
    obtain ⟨h3, h4⟩ := h2 t (by simp)
    refine ⟨v, tyV X.K t, tyU X.K (tyOf d), tyU X.K t, isI t d, rfl, ty_cls _ _, tyx_of F r1 h1, kit_one F h3 h1 h4, ?_⟩
    have q2 := q1 (.bl ([t].any fun t => isI t d)) H1 s1 rep_bl
    simpa using q2
/-- a tuple of classes as written -/
inductive TyL (X : Cx) : List Expr → List Ty → TA → Prop
  | nil : TyL X [] [] tNil
  | cons {e : Expr} {es : List Expr} {t : Ty} {ts : List Ty} {r : TA} (h : PE X e (tC (tyV X.K t))) (k : TyL X es ts r) (hs : starEach (e :: es) X.env = (false, eval e X.env) :: starEach es X.env) : TyL X (e :: es) (t :: ts) (tCons (tC (tyV X.K t)) r)
theorem TyL.pa {es : List Expr} {ts : List Ty} {r : TA} (h : TyL X es ts r) : PA X es r := by
  induction h with
  | nil => exact pa_nil
  | cons h _ hs ih => exact pa_cons h ih hs
theorem TyL.run {es : List Expr} {ts : List Ty} {r : TA} (h : TyL X es ts r) : ∀ {σ : L2.St} {H : Hp} {Q : List V → Hp → Prop}, Q (ts.map (tyV X.K)) H → r σ H Q := by
  induction h with
  | nil => exact fun q => q
  | cons h _ hs ih => exact fun q => ih (Q := fun xs H2 => _) q
theorem ty_all (K : Frag) : ∀ ts : List Ty, Paired ClsV (ts.map (tyV K)) (ts.map (tyU K))
  | [] => .nil
  | t :: ts => .cons (ty_cls K t) (ty_all K ts)
theorem x_isiT {cs : List String} {ts : List Ty} {r : TA} {x : Str} {p tp : Pos} {tk} (hx : x = "isinstance") (F : KitF X.K cs) (hg : Gl X x) (hm : X.mg x = none) (ha : PE X a (tW X.K W ow ma)) (hb : TyL X es ts r) (hz : ts.length ≤ 20)
    (hs : starEach [a, .Tuple es tk tp] X.env = (false, eval a X.env) :: starEach [.Tuple es tk tp] X.env := by rfl) (hs2 : starEach [.Tuple es tk tp] X.env = [(false, eval (.Tuple es tk tp) X.env)] := by rfl) (hpl : (backTo pos (starEach [.Tuple es tk tp] X.env)).any (·.1) = false := by rfl) :
    PE X (.Call (.Name x p) [a, .Tuple es tk tp] [] pos) (tE X.K W ow (un (oisi cs ts) ma)) := by
  subst hx
  refine PE.of (pe_callB call_isiT hg hm (by decide +kernel) (pa_cons ha (pa_cons (pe_tup hb.pa) pa_nil hs2) hs) (by decide) (by decide) hs hpl) fun σ H Q ⟨A, H0, O, en, R, q⟩ => ⟨A, H0, O, en, R, (Out.bind q).good fun d q1 v H1 s1 r1 => ?_⟩
  cases e : oisi cs ts d with
  | exc _ _ =>
    rw [e] at q1
    exact absurd (e ▸ n_isi (cs := cs) d () () : (Res.exc _ _ : Res D).isP = true) (by simp [Res.isP])
  | pick _ _ =>
    exact absurd (e ▸ n_isi (cs := cs) d () () : (Res.pick _ _ : Res D).isP = true) (by simp [Res.isP])
  | stuck =>
    rw [e] at q1
    exact q1.elim
  | ok r =>
    rw [e] at q1
    obtain ⟨h1, h2, rfl⟩ := isi_ok e
    refine hb.run ⟨by rw [List.length_map]; exact Nat.le_trans hz (by decide), fun p hp => ?_⟩
    exact ⟨v, p, ts.map (tyV X.K), tyU X.K (tyOf d), ts.map (tyU X.K), _, rfl, upd_same, ty_all _ _, tyx_of F (r1.move (new_same hp)) h1, kit_any F h1 h2, q1 _ _ (s1.trans (new_same hp)) rep_bl⟩
/-! ### attributes -/
theorem x_attr {cs : List String} {f : String} (F : ∀ c ∈ cs, Cls X.K (ca X.K c) ∧ NoAttr X.K (ca X.K c) (Str.ofString f)) (ha : PE X a (tW X.K W ow ma))
    (hb : attributeBase a (Str.ofString f) X.env (eval a X.env) = eval a X.env := by rfl) : PE X (.Attribute a (Str.ofString f) pos) (tE X.K W ow (un (oattr cs f) ma)) :=
  PE.of (pe_fld ha hb) fun σ H Q ⟨A, H0, O, en, R, q⟩ => ⟨A, H0, O, en, R, (Out.bind q).good fun d q1 v H1 s1 r1 => by
    cases d with
    | ins c fs =>
      simp only [oattr] at q1
      split at q1
      · rename_i hc
        obtain ⟨h1, h2⟩ := F c (by simpa using hc)
        obtain ⟨p, dx, fvs, rfl, q2, r2⟩ := r1
        have lk := r2.look (f := f)
        cases hl : fs.lookup f with
        | none =>
          rw [hl] at q1
          exact q1.elim
        | some d' =>
          rw [hl] at q1 lk
          obtain ⟨v', e1, r'⟩ := lk
          exact ⟨p, _, dx, fvs, v', rfl, q2, h1, h2, e1, q1 v' H1 s1 r'⟩
      · exact q1.elim
    | _ => exact q1.elim⟩
/-! ### slices -/
/-- a part of a slice -/
def tO (K : Frag) (W : WX) (ow : Ow) (m : Option EM) : TO := fun σ H Q => ∃ A H0 O e, ER K A H0 ow O σ H e ∧
  Out (slc.bnd m e) (fun o => ∀ H', Same H H' → Q o H') (badE K W A O σ H)
theorem o_none : PO X none (tO X.K W ow none) := ⟨fun pins s σ H Q I ⟨A, H0, O, en, R, q⟩ => po_none.run pins s σ H Q I (q H (Same.refl H))⟩
theorem o_some (h : PE X e (tE X.K W ow m)) : PO X (some e) (tO X.K W ow (some m)) := ⟨fun pins s σ H Q I ⟨A, H0, O, en, R, q⟩ => (po_some h).run pins s σ H Q I ⟨A, H0, O, en, R, (Out.bind q).good fun d q1 v H1 s1 r1 => by
  cases d with
  | int i => exact ⟨i, r1, q1 H1 s1⟩
  | _ => exact q1.elim⟩⟩
theorem x_slc {lo hi : Option Expr} {ml mh : Option EM} {p2 : Pos} (ha : PE X a (tW X.K W ow ma)) (hl : PO X lo (tO X.K W ow ml)) (hh : PO X hi (tO X.K W ow mh)) : PE X (.Subscript a (.Slice lo hi none p2) pos) (tE X.K W ow (slc ma ml mh)) :=
  PE.of (pe_slice y_slc ha hl hh) fun σ H Q ⟨A, H0, O, en, R, q⟩ => ⟨A, H0, O, en, R, (Out.bind q).good fun d q1 v H1 s1 r1 => ⟨A, H0, O, en, R.to s1, ((Out.bind q1).to s1).good fun i q2 H2 s2 => ⟨A, H0, O, en, (R.to s1).to s2, ((Out.bind q2).to (s1.trans s2)).good fun j q3 H3 s3 => by
    cases e : oslc d i j with
    | ok z =>
      rw [e] at q3
      exact ⟨_, d, z, r1.move (s2.trans s3), (((R.to s1).to s2).to s3).there, e, fun v' H' s' r' => q3 v' H' (((s1.trans s2).trans s3).trans s') r'⟩
    | exc c fs =>
      exfalso
      cases d <;> simp only [oslc, reduceCtorEq] at e
      split at e <;> cases e
    | pick c fs =>
      exfalso
      cases d <;> simp only [oslc, reduceCtorEq] at e
      split at e <;> cases e
    | stuck =>
      rw [e] at q3
      exact q3.elim⟩⟩⟩
/-! ### built-in calls -/
def c1 (K : Frag) (f : D → Res D) : List V → Hp → VK → Prop := fun vs H Q => ∃ x, vs = [x] ∧ r1 K f x H Q
def c2 (K : Frag) (f : D → D → Res D) : List V → Hp → VK → Prop := fun vs H Q => ∃ x y, vs = [x, y] ∧ r2 K f x y H Q
theorem cimp {f : Value} {r r' : List V → Hp → VK → Prop} (h : CallR X f r) (k : ∀ x H Q, r' x H Q → r x H Q) : CallR X f r' := fun pins s σ H xs us Q I rx q => h pins s σ H xs us Q I rx (k xs H Q q)
theorem x_b1 {id : String} {x : Str} {p : Pos} {f : D → Res D} (hc : CallR X (.builtin id) (c1 X.K f)) (hf : NoEx1 f) (hg : Gl X x) (hm : X.mg x = none) (hv : bootBuiltins x = some (.builtin id)) (ha : PE X a (tW X.K W ow ma)) (hn : x ≠ "__name__" := by decide) (hdb : (x == ("__debug__" : Str)) = false := by decide)
    (hs : starEach [a] X.env = [(false, eval a X.env)] := by rfl) : PE X (.Call (.Name x p) [a] [] pos) (tE X.K W ow (un f ma)) :=
  PE.of (pe_callB hc hg hm hv (pa_cons ha pa_nil hs) hn hdb hs (by rfl)) fun σ H Q h => by
    obtain ⟨A, H0, O, en, R, q⟩ := one_of hf h
    exact ⟨A, H0, O, en, R, q.good fun d k v H' s r => ⟨v, rfl, k v H' s r⟩⟩
theorem x_t1 {id : String} {x : Str} {p : Pos} {f : D → Res D} (hc : CallR X (.type id) (c1 X.K f)) (hf : NoEx1 f) (hg : Gl X x) (hm : X.mg x = none) (hv : bootBuiltins x = some (.type id)) (ha : PE X a (tW X.K W ow ma)) (hn : x ≠ "__name__" := by decide) (hdb : (x == ("__debug__" : Str)) = false := by decide)
    (hs : starEach [a] X.env = [(false, eval a X.env)] := by rfl) : PE X (.Call (.Name x p) [a] [] pos) (tE X.K W ow (un f ma)) :=
  PE.of (pe_callTy hc hg hm hv (pa_cons ha pa_nil hs) hn hdb hs (by rfl)) fun σ H Q h => by
    obtain ⟨A, H0, O, en, R, q⟩ := one_of hf h
    exact ⟨A, H0, O, en, R, q.good fun d k v H' s r => ⟨v, rfl, k v H' s r⟩⟩
theorem x_b2 {id : String} {x : Str} {p : Pos} {f : D → D → Res D} (hc : CallR X (.builtin id) (c2 X.K f)) (hf : NoEx2 f) (hg : Gl X x) (hm : X.mg x = none) (hv : bootBuiltins x = some (.builtin id)) (ha : PE X a (tW X.K W ow ma)) (hb : PE X b (tW X.K W ow mb)) (hn : x ≠ "__name__" := by decide) (hdb : (x == ("__debug__" : Str)) = false := by decide)
    (hs : starEach [a, b] X.env = (false, eval a X.env) :: starEach [b] X.env := by rfl) (hs2 : starEach [b] X.env = [(false, eval b X.env)] := by rfl) (hpl : (backTo pos (starEach [b] X.env)).any (·.1) = false := by rfl) : PE X (.Call (.Name x p) [a, b] [] pos) (tE X.K W ow (bin f ma mb)) :=
  PE.of (pe_callB hc hg hm hv (pa_cons ha (pa_cons hb pa_nil hs2) hs) hn hdb hs hpl) fun σ H Q h => by
    obtain ⟨A, H0, O, en, R, q⟩ := two_of hf h
    refine ⟨A, H0, O, en, R, q.good fun d k v H' s r => ?_⟩
    obtain ⟨A2, H02, O2, en2, R2, q2⟩ := k v H' s r
    exact ⟨A2, H02, O2, en2, R2, q2.good fun d2 k2 v2 H2 s2 r2' => ⟨v, v2, rfl, k2 v2 H2 s2 r2'⟩⟩
theorem v_len0 : CallR X (.builtin "len") (fun vs H Q => ∃ x, vs = [x] ∧ ∃ A d1 d, isDic d1 = false ∧ RepW X.K A H d1 x ∧ blen d1 = .ok d ∧ ∀ v H', Same H H' → Rep X.K A H' d v → Q v H') := cimp call_len fun xs H Q ⟨x, e0, A, d1, d, hnd, h1, e, k⟩ => by
  subst e0
  cases d1 with
  | str s =>
    simp only [blen] at e
    split at e
    · rename_i hz
      simp only [Res.ok.injEq] at e
      subst e
      have h' : x = .str (Str.ofString s) := h1
      subst h'
      exact ⟨_, s.length, rfl, ⟨by rw [str_len]; exact hz, (str_len s).symm⟩, k _ H (Same.refl H) (flat_rep rfl _ _)⟩
    · cases e
  | tup xs =>
    simp only [blen, Res.ok.injEq] at e
    subst e
    obtain ⟨a, vs, rfl, q, r⟩ := (by simpa only [RepW, Rep] using h1 : ∃ a vs, x = .ref a ∧ SqT X.K H a vs ∧ RepL X.K A H xs vs)
    refine ⟨_, xs.length, rfl, .inr ⟨vs, q, r.length⟩, k _ H (Same.refl H) (flat_rep rfl _ _)⟩
  | lst xs =>
    simp only [blen, Res.ok.injEq] at e
    subst e
    obtain ⟨a, vs, rfl, q, r⟩ := h1
    refine ⟨_, xs.length, rfl, .inl ⟨vs, .inl q, r.length⟩, k _ H (Same.refl H) (flat_rep rfl _ _)⟩
  | dic t kvs => simp [isDic] at hnd
  | _ => simp [blen] at e
theorem v_len : CallR X (.builtin "len") (c1 X.K blen) := fun pins s σ H xs us Q I rx ⟨x, e0, A, d1, d, h1, ha, e, k⟩ => by
  cases hnd : isDic d1 with
  | false => exact v_len0 pins s σ H xs us Q I rx ⟨x, e0, A, d1, d, hnd, h1, e, k⟩
  | true =>
    cases d1 <;> simp only [isDic, reduceCtorEq] at hnd
    simp only [blen, Res.ok.injEq] at e
    subst e
    obtain ⟨a, rfl, g⟩ := h1
    subst e0
    cases rx with
    | cons r rr =>
      cases rr
      cases (show _ = Value.ref a from r)
      exact dic_len I g RepT.len RepK.len fun t' s' I' => ⟨.int _, H, I', ⟨t', rfl⟩, k _ H (Same.refl H) (flat_rep rfl _ _)⟩
theorem n_len : NoEx1 blen := fun x c fs => by
  cases x <;> simp only [blen] <;> first | (split <;> rfl) | rfl
theorem v_int : CallR X (.type "int") (c1 X.K bint) := cimp call_int1 fun xs H Q ⟨x, e0, A, d1, d, h1, _, e, k⟩ => by
  subst e0
  cases d1 with
  | int i =>
    simp only [bint, Res.ok.injEq] at e
    subst e
    have h' : x = .int i := h1
    subst h'
    exact .inl ⟨i, rfl, k _ H (Same.refl H) (flat_rep rfl _ _)⟩
  | bl b =>
    simp only [bint, Res.ok.injEq] at e
    subst e
    have h' : x = .bl b := h1
    subst h'
    exact .inr ⟨b, rfl, k _ H (Same.refl H) (flat_rep rfl _ _)⟩
  | _ => simp [bint] at e
theorem n_int : NoEx1 bint := fun x c fs => by cases x <;> rfl
theorem v_tuple : CallR X (.type "tuple") (c1 X.K btuple) := cimp call_tuple_of fun xs H Q ⟨x, e0, A, d1, d, h1, ha, e, k⟩ => by
  subst e0
  cases d1 with
  | lst xs =>
    simp only [btuple, Res.ok.injEq] at e
    subst e
    obtain ⟨a, vs, rfl, q, r⟩ := h1
    exact ⟨a, vs, rfl, .inl ⟨.inl q, fun l hl => k _ _ (new_same hl) (new_tup r hl)⟩⟩
  | tup xs =>
    simp only [btuple, Res.ok.injEq] at e
    subst e
    obtain ⟨a, vs, rfl, q, r⟩ := (by simpa only [RepW, Rep] using h1 : ∃ a vs, x = .ref a ∧ SqT X.K H a vs ∧ RepL X.K A H xs vs)
    exact ⟨a, vs, rfl, .inr ⟨q, k _ H (Same.refl H) h1⟩⟩
  | _ => simp [btuple] at e
theorem n_tuple : NoEx1 btuple := fun x c fs => by cases x <;> rfl
theorem ints_of {K : Frag} {A : AS} {H : Hp} : ∀ {ds : List D} {vs : List V} {is : List Int}, RepL K A H ds vs → intsOf ds = some is → vs = is.map V.int
  | [], vs, is, h, e => by
    simp only [RepL] at h
    simp only [intsOf, Option.some.injEq] at e
    subst h e
    rfl
  | d :: ds, vs, is, h, e => by
    simp only [RepL] at h
    obtain ⟨v, r, rfl, h1, h2⟩ := h
    cases d with
    | int i =>
      simp only [intsOf] at e
      cases q : intsOf ds with
      | none => rw [q] at e; cases e
      | some js =>
        rw [q] at e
        have e2 : i :: js = is := Option.some.inj e
        subst e2
        have h1' : v = .int i := h1
        rw [h1', ints_of h2 q]
        rfl
    | _ => simp [intsOf] at e
theorem bools_of {K : Frag} {A : AS} {H : Hp} : ∀ {ds : List D} {vs : List V} {is : List Bool}, RepL K A H ds vs → boolsOf ds = some is → vs = is.map V.bl
  | [], vs, is, h, e => by
    simp only [RepL] at h
    simp only [boolsOf, Option.some.injEq] at e
    subst h e
    rfl
  | d :: ds, vs, is, h, e => by
    simp only [RepL] at h
    obtain ⟨v, r, rfl, h1, h2⟩ := h
    cases d with
    | bl i =>
      simp only [boolsOf] at e
      cases q : boolsOf ds with
      | none => rw [q] at e; cases e
      | some js =>
        rw [q] at e
        have e2 : i :: js = is := Option.some.inj e
        subst e2
        have h1' : v = .bl i := h1
        rw [h1', bools_of h2 q]
        rfl
    | _ => simp [boolsOf] at e
theorem v_sum (hc : X.calm = true) : CallR X (.builtin "sum") (c1 X.K bsum) := cimp (cr_sum hc) fun xs H Q ⟨x, e0, A, d1, d, h1, ha, e, k⟩ => by
  subst e0
  cases d1 with
  | lst xs =>
    simp only [bsum] at e
    split at e
    · rename_i is hi
      simp only [Res.ok.injEq] at e
      subst e
      obtain ⟨a, vs, rfl, q, r⟩ := h1
      have e1 := ints_of r hi
      subst e1
      exact ⟨a, is, rfl, .inl q, k _ H (Same.refl H) (flat_rep rfl _ _)⟩
    · cases e
  | _ => simp [bsum] at e
theorem v_all (hc : X.calm = true) : CallR X (.builtin "all") (c1 X.K ball) := cimp (cr_all hc) fun xs H Q ⟨x, e0, A, d1, d, h1, ha, e, k⟩ => by
  subst e0
  cases d1 with
  | lst xs =>
    simp only [ball] at e
    split at e
    · rename_i is hi
      simp only [Res.ok.injEq] at e
      subst e
      obtain ⟨a, vs, rfl, q, r⟩ := h1
      have e1 := bools_of r hi
      subst e1
      exact ⟨a, is, rfl, .inl q, k _ H (Same.refl H) (flat_rep rfl _ _)⟩
    · cases e
  | _ => simp [ball] at e
theorem n_sum : NoEx1 bsum := fun x c fs => by
  cases x <;> simp only [bsum] <;> first | (split <;> rfl) | rfl
theorem n_all : NoEx1 ball := fun x c fs => by
  cases x <;> simp only [ball] <;> first | (split <;> rfl) | rfl
theorem v_min2 (hc : X.calm = true) : CallR X (.builtin "min") (c2 X.K bmin2) := cimp (call_min2 hc) fun xs H Q ⟨x, y, e0, A, d1, d2, d, h1, h2, ha, e, k⟩ => by
  subst e0
  cases d1 <;> cases d2 <;> simp only [bmin2, Res.ok.injEq, reduceCtorEq] at e
  subst e
  rename_i i j
  exact ⟨i, j, by rw [rep_int h1, rep_int h2], k _ H (Same.refl H) (flat_rep rfl _ _)⟩
theorem n_min2 : NoEx2 bmin2 := fun x y c fs => by cases x <;> cases y <;> rfl
/-- list(x) as a new list -/
theorem f_list {x : Str} {p : Pos} (hx : x = "list") (hg : Gl X x) (hm : X.mg x = none) (ha : PE X a (tW X.K W ow ma)) (hs : starEach [a] X.env = [(false, eval a X.env)] := by rfl) : PE X (.Call (.Name x p) [a] [] pos) (tF X.K W ow (un blist ma)) := by
  subst hx
  refine PE.of (pe_callTy call_list_of hg hm (by decide +kernel) (pa_cons ha pa_nil hs) (by decide) (by decide) hs (by rfl)) fun σ H Q ⟨A, H0, O, en, R, q⟩ => ⟨A, H0, O, en, R, (Out.bind q).good fun d q1 v H1 s1 r1 => ?_⟩
  cases d with
  | lst xs =>
    obtain ⟨a, vs, rfl, q, r⟩ := r1
    exact ⟨a, vs, rfl, .inl (.inl q), fun l hl => q1 l _ (s1.free hl) (s1.trans (new_same hl)) ⟨vs, upd_same, RepL.move ⟨fun b hb => hb.elim .inl fun z => by subst z; exact .inr hl, fun b o e _ => new_same hl b o e⟩ _ _ r⟩⟩
  | tup xs =>
    obtain ⟨a, vs, rfl, q, r⟩ := (by simpa only [RepW, Rep] using r1 : ∃ a vs, v = .ref a ∧ SqT X.K H1 a vs ∧ RepL X.K (AO A O) H1 xs vs)
    exact ⟨a, vs, rfl, .inr q, fun l hl => q1 l _ (s1.free hl) (s1.trans (new_same hl)) ⟨vs, upd_same, RepL.move ⟨fun b hb => hb.elim .inl fun z => by subst z; exact .inr hl, fun b o e _ => new_same hl b o e⟩ _ _ r⟩⟩
  | _ => exact q1.elim
end
end Py
/-! What is walked, targets, comprehensions. -/
namespace Py
open PySem L2
/-- J gives the data xs, one a turn, as long as the heap moves so -/
def Itm (M : AS → Hp → AS → Hp → Prop) (K : Frag) (A : AS) (J : It) (xs : List D) (H : Hp) : Prop := ∀ i A2 H2, M A H A2 H2 →
  (i < xs.length → J.go i H2 ∧ ∀ x H3, J.yld i H2 x H3 → Same H2 H3 ∧ ∃ d, xs[i]? = some d ∧ Rep K A2 H3 d x) ∧ (i = xs.length → J.stop i H2)
/-- .. as it only grows -/
def Gr (A : AS) (H : Hp) (A' : AS) (H' : Hp) : Prop := (∀ a, A' a → A a ∨ H a = none) ∧ Same H H'
theorem Gr.mv {A A' : AS} {H H' : Hp} (h : Gr A H A' H') : Mv A H A' H' := ⟨h.1, fun a o e _ => h.2 a o e⟩
abbrev MvT := AS → Hp → AS → Hp → Prop
theorem Itm.gr {K : Frag} {A : AS} {J : It} {xs : List D} {H : Hp} (h : Itm Mv K A J xs H) : Itm Gr K A J xs H := fun i A2 H2 m => h i A2 H2 m.mv
def tI (M : MvT) (K : Frag) (W : WX) (ow : Ow) (m : IM) : TI := fun σ H R => ∃ A H0 O e, ER K A H0 ow O σ H e ∧
  Out (m e) (fun xs => ∀ J H', Same H H' → Itm M K (AO A O) J xs H' → R J H') (badE K W A O σ H)
theorem PI.of {X : Cx} {tg iter : Expr} {t t' : TI} (h : PI X tg iter t) (k : ∀ σ H R, t' σ H R → t σ H R) : PI X tg iter t' := ⟨fun pins s σ H R I q => h.run pins s σ H R I (k σ H R q)⟩
section
variable {X : Cx} {W : WX} {A : AS} {H0 : Base} {ow : Ow} {tg a b c e : Expr} {es : List Expr} {m ma mb mc : EM} {am : AM} {pos p : Pos}
/-- a list or a tuple -/
theorem pi_either {l : Expr} {tl : TE} (hl : PE X l tl) : PI X tg l (fun σ H R => tl σ H fun x H1 => ∃ a, x = .ref a ∧ ((∃ xs, SqL X.K H1 a xs ∧ R (Itl X.K a) H1) ∨ ∃ xs, SqT X.K H1 a xs ∧ R (Itt X.K a) H1)) := by
  refine ⟨fun pins s σ H R I h => ?_⟩
  refine thn (hl.run pins s σ H _ I h) fun v s1 ⟨x, H1, I1, r1, q1⟩ => ?_
  obtain ⟨a, e, q⟩ := q1
  subst e
  cases r1
  have fin : ∀ b ∈ [s1.heap.objs.size], FpOk X pins H1 b := fun b hb => by
    have e : b = s1.heap.objs.size := by simpa using hb
    subst e
    exact I1.fpOk (Nat.le_refl _) (I1.hok.fresh (Nat.le_refl _))
  rcases q with ⟨xs, hq, q⟩ | ⟨xs, hq, q⟩
  · obtain ⟨its, rv, p, hz⟩ := I1.list hq
    refine wpAny_pyIter_list p.isList ?_
    exact ⟨s1.heap.objs.size, [s1.heap.objs.size], _, _, H1, rfl, I1.kept (t' := s1.toks) fun b o e => Heap.get?_push_of_some _ e, turn_list a _, ⟨_, Heap.get?_push_size _ rfl, rfl, rfl⟩, fin, q⟩
  · obtain ⟨its, rv, p, hz⟩ := I1.tuple hq
    refine wpAny_pyIter_tuple (show s1.heap.IsTuple a its.toArray from p) ?_
    exact ⟨s1.heap.objs.size, [s1.heap.objs.size], _, _, H1, rfl, I1.kept (t' := s1.toks) fun b o e => Heap.get?_push_of_some _ e, turn_tuple a _, ⟨_, Heap.get?_push_size _ rfl, rfl, rfl⟩, fin, q⟩
theorem itm_tup {K : Frag} {A : AS} {H : Hp} {a : Addr} {ds : List D} {vs : List V} (q : SqT K H a vs) (r : RepL K A H ds vs) : Itm Mv K A (Itt K a) ds H := fun i A2 H2 m => by
  have q2 := SqT.move m q
  have r2 := RepL.move m ds vs r
  refine ⟨fun hi => ?_, fun hi => ⟨vs, q2, by rw [← r.length]; exact Nat.le_of_eq hi.symm⟩⟩
  obtain ⟨v, hv, rv⟩ := r2.get (i := i) (List.getElem?_eq_getElem hi)
  refine ⟨⟨vs, v, q2, hv⟩, fun x H3 ⟨e, k⟩ => ?_⟩
  subst e
  have := k vs q2
  rw [hv] at this
  cases this
  exact ⟨Same.refl _, _, List.getElem?_eq_getElem hi, rv⟩
theorem itm_lst {M : MvT} {K : Frag} {A : AS} {H : Hp} {a : Addr} {ds : List D} {vs : List V} (hM : ∀ A2 H2, M A H A2 H2 → Mv A H A2 H2 ∧ Rd H2 a (.lst vs)) (r : RepL K A H ds vs) : Itm M K A (Itl K a) ds H := fun i A2 H2 m => by
  obtain ⟨mv, rd⟩ := hM A2 H2 m
  have q2 : SqL K H2 a vs := .inl rd
  have r2 := RepL.move mv ds vs r
  refine ⟨fun hi => ?_, fun hi => ⟨vs, q2, by rw [← r.length]; exact Nat.le_of_eq hi.symm⟩⟩
  obtain ⟨v, hv, rv⟩ := r2.get (i := i) (List.getElem?_eq_getElem hi)
  refine ⟨⟨vs, v, q2, hv⟩, fun x H3 ⟨e, k⟩ => ?_⟩
  subst e
  have := k vs q2
  rw [hv] at this
  cases this
  exact ⟨Same.refl _, _, List.getElem?_eq_getElem hi, rv⟩
/-- for a for: a clean list or tuple -/
theorem i_seq (ha : PE X a (tE X.K W ow ma)) : PI X tg a (tI Mv X.K W ow (iseq ma)) :=
  PI.of (pi_either ha) fun σ H R' ⟨A, H0, O, en, R, q⟩ => ⟨A, H0, O, en, R, (Out.bind q).good fun d q1 v H1 s1 r1 => by
    cases d with
    | lst xs =>
      obtain ⟨p, vs, rfl, n, h, r⟩ := (by simpa only [Rep] using r1 : ∃ a vs, v = .ref a ∧ ¬ AO A O a ∧ Rd H1 a (.lst vs) ∧ RepL X.K (AO A O) H1 xs vs)
      exact ⟨p, rfl, .inl ⟨vs, .inl h, q1 _ H1 s1 (itm_lst (fun A2 H2 m => ⟨m, (Rd.move m h n).1⟩) r)⟩⟩
    | tup xs =>
      obtain ⟨p, vs, rfl, h, r⟩ := (by simpa only [Rep] using r1 : ∃ a vs, v = .ref a ∧ SqT X.K H1 a vs ∧ RepL X.K (AO A O) H1 xs vs)
      exact ⟨p, rfl, .inr ⟨vs, h, q1 _ H1 s1 (itm_tup h r)⟩⟩
    | _ => exact q1.elim⟩
theorem i_gr {it : IM} (h : PI X tg a (tI Mv X.K W ow it)) : PI X tg a (tI Gr X.K W ow it) :=
  PI.of h fun σ H R' ⟨A, H0, O, en, R, q⟩ => ⟨A, H0, O, en, R, q.good fun xs k J H' s i => k J H' s i.gr⟩
theorem itm_range {K : Frag} {A : AS} {H : Hp} {lo hi : Int} : Itm Mv K A (Itr lo (hi - lo).toNat) (rngL lo hi) H := fun i A2 H2 m => by
  have hl : (rngL lo hi).length = (hi - lo).toNat := by unfold rngL; simp
  rw [hl]
  refine ⟨fun h => ⟨h, fun x H3 ⟨e1, e2⟩ => ?_⟩, fun h => Nat.le_of_eq h.symm⟩
  subst e1 e2
  refine ⟨Same.refl _, .int (lo + (i : Nat)), ?_, rfl⟩
  unfold rngL
  rw [List.getElem?_map, List.getElem?_range h]
  rfl
theorem nb62 {n : Int} (h : n.natAbs < B62) : -(2 : Int) ^ 62 ≤ n ∧ n < 2 ^ 62 := by
  have e : (2 : Int) ^ 62 = 4611686018427387904 := by decide
  rw [e]
  unfold B62 at h
  omega
theorem rng1_of {σ : L2.St} {H : Hp} {R' : It → Hp → Prop} (h : tI Mv X.K W ow (irng1 ma) σ H R') : iRng1 (tCons (tE X.K W ow ma) tNil) σ H R' := by
  obtain ⟨A, H0, O, en, R, q⟩ := h
  refine ⟨A, H0, O, en, R, (Out.bind q).good fun d q1 v H1 s1 r1 => ?_⟩
  cases d with
  | int n =>
    simp only at q1
    split at q1
    · rename_i z
      have r1' : v = .int n := r1
      subst r1'
      refine ⟨n, rfl, (nb62 z).1, (nb62 z).2, ?_⟩
      have k := q1 (Itr 0 (n - 0).toNat) H1 s1 itm_range
      have e : n - 0 = n := Int.sub_zero n
      rw [e] at k
      exact k
    · exact q1.elim
  | _ => exact q1.elim
theorem i_rng1 (hg : Gl X "range") (hm : X.mg "range" = none) (ha : PE X a (tE X.K W ow ma)) (hs : starEach [a] X.env = [(false, eval a X.env)] := by rfl) : PI X tg (.Call (.Name "range" p) [a] [] pos) (tI Mv X.K W ow (irng1 ma)) :=
  PI.of (pi_range1 hg hm (pa_cons ha pa_nil hs) hs) fun σ H R' h => rng1_of h
theorem i_rng2 (hg : Gl X "range") (hm : X.mg "range" = none) (ha : PE X a (tE X.K W ow ma)) (hb : PE X b (tE X.K W ow mb)) (hs : starEach [a, b] X.env = [(false, eval a X.env), (false, eval b X.env)] := by rfl) (hs2 : starEach [b] X.env = [(false, eval b X.env)] := by rfl) :
    PI X tg (.Call (.Name "range" p) [a, b] [] pos) (tI Mv X.K W ow (irng2 ma mb)) :=
  PI.of (pi_range2 hg hm (pa_cons ha (pa_cons hb pa_nil hs2) (by rw [hs, hs2])) hs hs2) fun σ H R' ⟨A, H0, O, en, R, q⟩ => ⟨A, H0, O, en, R, (Out.bind q).good fun d q1 v H1 s1 r1 => ⟨A, H0, O, en, R.to s1, ((Out.bind q1).to s1).good fun d2 q2 v2 H2 s2 r2 => by
    cases d with
    | int i =>
      cases d2 with
      | int n =>
        simp only at q2
        split at q2
        · rename_i z
          have r1' : v = .int i := r1
          have r2' : v2 = .int n := r2
          subst r1' r2'
          exact ⟨i, n, rfl, ⟨(nb62 z.1).1, (nb62 z.1).2, (nb62 z.2).1, (nb62 z.2).2⟩, q2 (Itr i (n - i).toNat) H2 (s1.trans s2) itm_range⟩
        · exact q2.elim
      | _ => exact q2.elim
    | _ => exact q2.elim⟩⟩
/-! ### targets -/
/-- a target: ts are the slots that it sets -/
def tGt (K : Frag) (ow : Ow) (ts : List Nat) (g : GM) : TG := fun v σ H Q => ∃ A H0 O e d e', ER K A H0 ow O σ H e ∧ Rep K (AO A O) H d v ∧ g d e = some e' ∧
  ∀ σ', ER K A H0 ow O σ' H e' → σ'.length = σ.length → (∀ j, j ∉ ts → σ'[j]? = σ[j]?) → Q σ' H
theorem PG.of {tg : Expr} {t t' : TG} (h : PG X tg t) (k : ∀ v σ H Q, t' v σ H Q → t v σ H Q) : PG X tg t' := ⟨fun pins s σ H v u Q I r q => h.run pins s σ H v u Q I r (k v σ H Q q)⟩
theorem g_nm {i : Nat} (h : PG X tg (gName i)) (hi : ow i = false) : PG X tg (tGt X.K ow [i] (gnm i)) :=
  PG.of h fun v σ H Q ⟨A, H0, O, en, d, e', R, r, g, q⟩ => by
    cases g
    exact q _ (R.set hi r) (by simp) fun j hj => by
      have : i ≠ j := fun z => hj (by simp [z])
      rw [List.getElem?_set_ne this]
def tGts (K : Frag) (ow : Ow) (ts : List Nat) (gs : List GM) : TGs := fun vs σ H Q => ∃ A H0 O e ds e', ER K A H0 ow O σ H e ∧ RepL K (AO A O) H ds vs ∧ gtupL gs ds e = some e' ∧
  ∀ σ', ER K A H0 ow O σ' H e' → σ'.length = σ.length → (∀ j, j ∉ ts → σ'[j]? = σ[j]?) → Q σ' H
theorem PGs.of {tg : List Expr} {t t' : TGs} (h : PGs X tg t) (k : ∀ v σ H Q, t' v σ H Q → t v σ H Q) : PGs X tg t' := ⟨fun pins s σ H v u Q I r q => h.run pins s σ H v u Q I r (k v σ H Q q)⟩
theorem gs_nil : PGs X [] (tGts X.K ow [] []) := PGs.of pgs_nil fun vs σ H Q ⟨A, H0, O, en, ds, e', R, r, g, q⟩ => by
  cases ds with
  | nil =>
    simp only [RepL] at r
    subst r
    cases g
    exact ⟨rfl, q σ R rfl fun _ _ => rfl⟩
  | cons d ds => cases g
theorem gs_cons {ts us : List Nat} {g : GM} {gs : List GM} (h1 : PG X e (tGt X.K ow ts g)) (h2 : PGs X es (tGts X.K ow us gs))
    (hs : (assignEach (e :: es) X.env).map (·.2) = assign e X.env :: (assignEach es X.env).map (·.2) := by rfl) : PGs X (e :: es) (tGts X.K ow (ts ++ us) (g :: gs)) :=
  PGs.of (pgs_cons h1 h2 hs) fun vs σ H Q ⟨A, H0, O, en, ds, e', R, r, ge, q⟩ => by
    cases ds with
    | nil => cases ge
    | cons d ds =>
      simp only [RepL] at r
      obtain ⟨v, r', rfl, r1, r2⟩ := r
      simp only [gtupL] at ge
      cases e1 : g d en with
      | none => rw [e1] at ge; cases ge
      | some en1 =>
        rw [e1] at ge
        refine ⟨v, r', rfl, A, H0, O, en, d, en1, R, r1, e1, fun σ1 R1 l1 k1 => ⟨A, H0, O, en1, ds, e', R1, r2, ge, fun σ2 R2 l2 k2 => q σ2 R2 (l2.trans l1) fun j hj => ?_⟩⟩
        rw [k2 j fun z => hj (by simp [z]), k1 j fun z => hj (by simp [z])]
theorem gtupL_len : ∀ {gs : List GM} {ds : List D} {e e' : Env}, gtupL gs ds e = some e' → ds.length = gs.length
  | [], [], _, _, _ => rfl
  | [], _ :: _, _, _, h => by cases h
  | _ :: _, [], _, _, h => by cases h
  | g :: gs, d :: ds, e, e', h => by
    simp only [gtupL] at h
    cases e1 : g d e with
    | none => rw [e1] at h; cases h
    | some e2 =>
      rw [e1] at h
      simp only [List.length_cons]
      rw [gtupL_len (show gtupL gs ds e2 = some e' from h)]
theorem g_tup {ts : List Nat} {gs : List GM} {n k : Nat} (hc : X.calm = true) (h : PGs X es (tGts X.K ow ts gs)) (hn : (assignEach es X.env).length = n := by rfl) (hl : gs.length = n := by rfl)
    (hst : (assignEach es X.env).findIdx? (·.1) = none := by rfl) : PG X (.Tuple es k pos) (tGt X.K ow ts (gtup gs)) :=
  PG.of (pg_tup hc h hn hst) fun v σ H Q ⟨A, H0, O, en, d, e', R, r, g, q⟩ => by
    cases d with
    | tup xs =>
      obtain ⟨a, vs, rfl, h, r⟩ := (by simpa only [Rep] using r : ∃ a vs, v = .ref a ∧ SqT X.K H a vs ∧ RepL X.K (AO A O) H xs vs)
      exact ⟨a, vs, rfl, h, by rw [← r.length, ← hl]; exact gtupL_len g, A, H0, O, en, xs, e', R, r, g, q⟩
    | _ => cases g
/-! ### comprehensions -/
abbrev W0 : WX := fun _ _ _ _ => False
theorem wipe_eq : ∀ {vs : List Nat} {σ σ' : L2.St}, σ'.length = σ.length → (∀ j, j ∉ vs → σ'[j]? = σ[j]?) → L2.wipe σ' vs = L2.wipe σ vs := fun {vs σ σ'} hl h => by
  apply List.ext_getElem?
  intro i
  by_cases hi : i ∈ vs
  · have key : ∀ (us : List Nat) (τ : L2.St), i ∈ us → (L2.wipe τ us)[i]? = if i < τ.length then some none else none := by
      intro us τ
      induction us with
      | nil => intro h; cases h
      | cons u us ih =>
        intro hm
        unfold L2.wipe
        by_cases hu : u = i
        · subst hu
          rw [List.getElem?_set]
          simp only [if_true, L2.wipe_length]
        · rw [List.getElem?_set_ne hu]
          exact ih (by
            rcases List.mem_cons.mp hm with z | z
            · exact absurd z.symm hu
            · exact z)
    rw [key vs σ' hi, key vs σ hi, hl]
  · rw [L2.wipe_out hi, L2.wipe_out hi]
    exact h i hi
theorem compL_drop {f : D → Res (Option D)} {xs : List D} {i : Nat} {G : List D → Prop} {F : String → List (String × D) → Prop} (hi : i < xs.length) (h : Out (compL f (xs.drop i)) G F) :
    Out (f xs[i]) (fun o => Out (compL f (xs.drop (i + 1))) (fun zs => G (match o with | some y => y :: zs | none => zs)) F) F := by
  rw [List.drop_eq_getElem_cons hi] at h
  simp only [compL] at h
  exact (Out.bind h).good fun o h2 => (Out.bind h2).good fun zs h3 => h3
theorem noexc_of {α β : Type} {r : Res α} {k : α → Res β} {good : β → Prop} {bad bad' : String → List (String × D) → Prop} (h : Out (noexc r >>= k) good bad) : Out r (fun a => Out (k a) good bad) bad' := (Out.bind h).noexc
theorem ER.more {K : Frag} {A A' : AS} {H0 : Base} {ow : Ow} {O : OW} {σ : L2.St} {H H' : Hp} {e : Env} (R : ER K A H0 ow O σ H e) (h0 : ∀ a, A' a → H' a ≠ none) (s : Same H H') (hA : ∀ a, A' a → A a ∨ H a = none) (hA2 : ∀ a, A a → A' a) : ER K A' H0 ow O σ H' e := by
  have mv : Mv (AO A O) H (AO A' O) H' := ⟨fun a ha => by
    rcases ha with ha | ha
    · rcases hA a ha with z | z
      · exact .inl (.inl z)
      · exact .inr z
    · exact .inl (.inr ha), fun a o e _ => s a o e⟩
  refine ⟨R.len, h0, R.same.trans s, fun i d h1 h2 => ?_, fun i d h1 h2 => ?_, fun i a h => ⟨(R.fresh i a h).1, ne_none s (R.fresh i a h).2.1, fun z => (hA a z).elim (R.fresh i a h).2.2 (R.fresh i a h).2.1⟩, R.inj, R.pin, R.exq.heap mv fun da fvs e => s _ _ e⟩
  · obtain ⟨v, q, r⟩ := R.vals i d h1 h2
    exact ⟨v, q, Rep.move mv _ _ r⟩
  · obtain ⟨a, q, q2, r⟩ := R.owns i d h1 h2
    refine ⟨a, q, q2, r.move mv ?_⟩
    cases z : H a with
    | none => exact absurd z (R.fresh i a q).2.1
    | some o => exact s a o z
/-- [elt for tg in iter if test]; vs: the block's own names, ts: those that the target sets -/
theorem lc_of {K : Frag} {it : IM} {vs ts : List Nat} {g : GM} {t : TM} {elt : EM} (hx : ow.x = none) (hts : ∀ j ∈ ts, j ∈ vs) {σ : L2.St} {H : Hp} {Q : VK} (h : tF K W ow (lcE it vs g t elt) σ H Q) :
    tLc (tI Gr K W ow it) (tGt K ow ts g) (tT K W0 ow t) (tE K W0 ow elt) vs σ H Q := by
  obtain ⟨A, H0, O, en, R, q⟩ := h
  refine ⟨A, H0, O, en, R, (Out.bind q).good fun xs q1 J H1 s1 itm D hD => ?_⟩
  have q0 := noexc_of (bad' := Nev) q1
  by_cases hsz : xs.length ≤ SZ
  case neg =>
    exact (Out.void (q0.good fun ys q2 => by
      unfold chk at q2
      rw [if_neg hsz] at q2
      exact q2)).elim
  have q2 := q0.good fun ys (q2 : Out (chk xs.length (.lst ys)) _ _) => (by
    unfold chk at q2
    rw [if_pos hsz] at q2
    exact fun a H' n s h => q2 a H' (s1.free n) (s1.trans s) h : ∀ (a : Addr) (H' : Hp), H1 a = none → Same H1 H' → OwnAt K (fun b => AO A O b ∨ b = a) H' a (.lst ys) → Q (.ref a) H')
  have hsl : SZ = sizeLine := rfl
  have R1 := R.to s1
  have hAD : ¬ AO A O D := fun z => R1.there D z hD
  generalize hA' : (fun b => A b ∨ b = D : AS) = A'
  have hA1 : ∀ b, AO A' O b → AO A O b ∨ b = D := fun b hb => by
    subst hA'
    rcases hb with (hb | hb) | hb
    · exact .inl (.inl hb)
    · exact .inr hb
    · exact .inl (.inr hb)
  have hA2 : ∀ b, AO A O b ∨ b = D → AO A' O b := fun b hb => by
    subst hA'
    rcases hb with (hb | hb) | hb
    · exact .inl (.inl hb)
    · exact .inr hb
    · exact .inl (.inr hb)
  refine ⟨fun i m H' => m = xs.length - i ∧ i ≤ xs.length ∧ ∃ acc vs', H' D = some (.lst vs') ∧ Same H1 H' ∧ acc.length ≤ i ∧ Out (compL (compF vs g t elt en) (xs.drop i)) (fun zs => ∀ (a : Addr) (H' : Hp), H1 a = none → Same H1 H' → OwnAt K (fun b => AO A O b ∨ b = a) H' a (.lst (acc ++ zs)) → Q (.ref a) H') Nev ∧ RepL K (AO A' O) H' acc vs', ⟨xs.length, by simp, Nat.zero_le _, [], [], upd_same, new_same hD, Nat.le_refl _, q2, by simp [RepL]⟩, ?_⟩
  rintro i m H' ⟨rfl, hi, acc, vs', hH', s2, hal, hz, hr2⟩
  have im := itm i (AO A' O) H' ⟨fun b hb => (hA1 b hb).elim .inl fun z => by rw [z]; exact .inr hD, s2⟩
  by_cases hlt : i < xs.length
  · right
    obtain ⟨hgo, hy⟩ := im.1 hlt
    have hf := compL_drop hlt hz
    refine ⟨hgo, fun H'' => ∃ acc vs', H'' D = some (.lst vs') ∧ Same H1 H'' ∧ acc.length ≤ i + 1 ∧ Out (compL (compF vs g t elt en) (xs.drop (i + 1))) (fun zs => ∀ (a : Addr) (H' : Hp), H1 a = none → Same H1 H' → OwnAt K (fun b => AO A O b ∨ b = a) H' a (.lst (acc ++ zs)) → Q (.ref a) H') Nev ∧ RepL K (AO A' O) H'' acc vs', fun H'' ⟨a1, a2, h1, h2, h3, h4, h6⟩ => ⟨xs.length - (i + 1), by omega, rfl, by omega, a1, a2, h1, h2, h3, h4, h6⟩, fun x H3 y => ?_⟩
    obtain ⟨s3, d, hd, rd⟩ := hy x H3 y
    have hd' : d = xs[i] := by
      rw [List.getElem?_eq_getElem hlt] at hd
      exact (Option.some.inj hd).symm
    subst hd'
    unfold compF at hf
    cases hg : g xs[i] (wipe en vs) with
    | none => rw [hg] at hf; exact hf.elim
    | some e1 =>
      rw [hg, lift_some, bind_ok] at hf
      have s13 := s2.trans s3
      have hD3 : H3 D ≠ none := by
        rw [s3 _ _ hH']
        exact fun z => nomatch z
      have R3 : ER K A' H0 ow O (L2.wipe σ vs) H3 (wipe en vs) := ((R1.more (A' := A') (H' := H3) (fun b hb => by
        rcases hA1 b (.inl hb) with z | z
        · exact (R1.to s13).there b z
        · rw [z]
          exact hD3) s13 (fun b hb => by
        subst hA'
        rcases hb with hb | hb
        · exact .inl hb
        · rw [hb]
          exact .inr hD) (fun b hb => by
        subst hA'
        exact .inl hb))).wipe vs hx
      refine ⟨A', H0, O, wipe en vs, xs[i], e1, R3, rd, hg, fun σ1 Rσ l1 k1 => ⟨?_, ?_⟩⟩
      · have w1 := wipe_eq (vs := vs) (σ := L2.wipe σ vs) (σ' := σ1) l1 fun j hj => k1 j fun z => hj (hts j z)
        rw [w1]
        exact wipe_eq (L2.wipe_length _ _) fun j hj => L2.wipe_out hj
      · refine ⟨A', H0, O, e1, Rσ, (Out.bind hf).imp (fun bb _ hf => ?_) fun _ _ z => z.elim⟩
        intro H4 s4
        cases bb with
        | false =>
            rw [if_neg (by decide)] at hf ⊢
            have s5 : Same H' H4 := s3.trans s4
            exact ⟨acc, vs', s5 _ _ hH', s2.trans s5, by omega, hf, RepL.move (Mv.same s5) _ _ hr2⟩
        | true =>
              rw [if_pos rfl] at hf ⊢
              refine ⟨A', H0, O, e1, Rσ.to s4, (Out.bind hf).imp (fun y' _ hf => ?_) fun _ _ z => z.elim⟩
              intro v5 H5 s5 r5
              have s6 : Same H' H5 := (s3.trans s4).trans s5
              have a1 := s6 _ _ hH'
              have hmv : Mv (AO A' O) H5 (AO A' O) (upd H5 D (.lst (vs' ++ [v5]))) := ⟨fun b hb => .inl hb, fun b o' e1 hb => by
                rw [upd_ne]
                · exact e1
                · intro z
                  subst z
                  rcases hb with hb | hb
                  · exact hb (hA2 _ (.inr rfl))
                  · rw [a1] at e1
                    cases e1
                    exact hb⟩
              have rall := (RepL.move (Mv.same s6) _ _ hr2).append (RepL.one r5)
              have hlen := hr2.length
              refine ⟨vs', a1, by omega, acc ++ [y'], vs' ++ [v5], upd_same, fun b o' e1 => ?_, by simp; omega, Out.good (show Out (compL _ _) _ _ from hf) fun zs h => by rw [List.append_assoc]; exact h, RepL.move hmv _ _ rall⟩
              rw [upd_ne (ne_of_none e1 hD)]
              exact s6 _ _ (s2 _ _ e1)
  · left
    refine ⟨im.2 (by omega), ?_⟩
    have hi2 : i = xs.length := by omega
    subst hi2
    rw [List.drop_length] at hz
    have hz : ∀ (a : Addr) (H' : Hp), H1 a = none → Same H1 H' → OwnAt K (fun b => AO A O b ∨ b = a) H' a (.lst (acc ++ [])) → Q (.ref a) H' := hz
    rw [List.append_nil] at hz
    exact hz D H' hD s2 ⟨vs', hH', RepL.move (Mv.less fun b hb => hA2 b hb) _ _ hr2⟩
end
end Py
/-! Statements. -/
namespace Py
open PySem L2
section
variable {K : Frag} {A : AS} {H0 : Base} {ow : Ow} {O : OW} {σ : L2.St} {H H' : Hp} {e : Env}
/-- every name gives up what it owns -/
theorem ER.freeze (R : ER K A H0 ow O σ H e) : ER K A ⟨H0.hp, none⟩ ow.off (fun _ => none) σ H e := by
  have mv : Mv (AO A O) H (AO A fun _ => none) H := Mv.less fun b hb => hb.elim .inl fun ⟨_, z⟩ => nomatch z
  refine ⟨R.len, R.a0, R.same, fun i d h1 _ => ?_, fun i d h1 h2 => ?_, fun i a h => (nomatch h), fun i j a h => (nomatch h), fun a h => (nomatch h), fun q hq => ?_⟩
  rotate_right
  · obtain ⟨h1, h2, h3, fvs, h4, h5⟩ := R.exq q hq
    refine ⟨?_, h2, h3, fvs, h4, RepF.move mv _ _ h5⟩
    have hq2 : ow.x = some q := hq
    simp only [Ow.off, hq2, beq_self_eq_true]
  rotate_right
  · simp only [Ow.off] at h2
    cases hq : ow.x with
    | none =>
      rw [hq] at h2
      cases h2
    | some q =>
      rw [hq] at h2
      have hi : i = q.i := by simpa using h2
      subst hi
      exact absurd h1 ((R.exq q hq).no d)
  cases hi : ow i with
  | false =>
    obtain ⟨v, q, r⟩ := R.vals i d h1 hi
    exact ⟨v, q, Rep.move mv _ _ r⟩
  | true =>
    obtain ⟨a, q, q2, r⟩ := R.owns i d h1 hi
    refine ⟨.ref a, q2, ?_⟩
    have na : ¬ AO A (fun _ => none) a := fun z => z.elim (R.fresh i a q).2.2 fun ⟨_, w⟩ => nomatch w
    exact r.rep mv na
/-- a name's own object changes -/
theorem ER.write (R : ER K A H0 ow O σ H e) {i : Nat} {a : Addr} {o : HO} {d d' : D} (hi : ow i = true) (he : e[i]? = some (some d)) (ha : O i = some a) (h : OwnAt K (AO A O) (upd H a o) a d') : ER K A H0 ow O σ (upd H a o) (e.set i (some d')) := by
  obtain ⟨a1, q1, q2, r⟩ := R.owns i d he hi
  rw [ha] at q1
  cases q1
  obtain ⟨u0, hu0, hs0, hx0⟩ := r.obj
  have hst : ∀ u, H a = some u → ¬ still u := fun u hu => by
    rw [hu0] at hu
    cases hu
    exact hs0
  have mv : Mv (AO A O) H (AO A O) (upd H a o) := ⟨fun b hb => .inl hb, fun b u e1 hb => by
    rw [upd_ne]
    · exact e1
    · intro z
      subst z
      rcases hb with hb | hb
      · exact hb (.inr ⟨i, ha⟩)
      · exact hst u e1 hb⟩
  have hne : ∀ {H1 : Hp} {b : Addr}, H1 b ≠ none → (upd H1 a o) b ≠ none := fun {H1 b} h => by
    unfold upd
    split
    · exact fun z => nomatch z
    · exact h
  refine ⟨by simp [R.len], fun b hb => hne (R.a0 b hb), fun b u e1 => ?_, fun j dj h1 h2 => ?_, fun j dj h1 h2 => ?_, fun j b hb => ⟨(R.fresh j b hb).1, hne (R.fresh j b hb).2.1, (R.fresh j b hb).2.2⟩, R.inj, R.pin, R.exq.move mv (fun da fvs e1 => (upd_ne fun z => by
    subst z
    rw [hu0] at e1
    exact hx0 _ (Option.some.inj e1)).trans e1) fun j _ n => ⟨rfl, fun dj => by
      have hij : i ≠ j := fun z => by
        subst z
        exact n _ he
      rw [List.getElem?_set_ne hij]
      exact n dj⟩⟩
  · rw [upd_ne]
    · exact R.same b u e1
    · intro z
      rw [z, (R.fresh i a ha).1] at e1
      cases e1
  · have hj : i ≠ j := fun z => by
      subst z
      rw [hi] at h2
      cases h2
    rw [List.getElem?_set_ne hj] at h1
    obtain ⟨v, q, r⟩ := R.vals j dj h1 h2
    exact ⟨v, q, Rep.move mv _ _ r⟩
  · by_cases hj : i = j
    · subst hj
      have hl := (List.getElem?_eq_some_iff.mp he).1
      rw [List.getElem?_set_self hl] at h1
      cases h1
      exact ⟨a, ha, q2, h⟩
    · rw [List.getElem?_set_ne hj] at h1
      obtain ⟨b, p1, p2, p3⟩ := R.owns j dj h1 h2
      have hba : b ≠ a := fun z => by
        subst z
        exact hj (R.inj i j b ha p1)
      exact ⟨b, p1, p2, p3.move mv (upd_ne hba)⟩
/-- a name gets an object of its own -/
theorem ER.take (R : ER K A H0 ow O σ H e) {i : Nat} {a : Addr} {d : D} (s : Same H H') (hxi : ∀ q, ow.x = some q → q.i ≠ i) (hi : ow i = true) (h0 : 0 < i) (hn : H a = none) (h : OwnAt K (fun b => AO A O b ∨ b = a) H' a d) :
    ER K A H0 ow (fun j => if j = i then some a else O j) (σ.set i (some (.ref a))) H' (e.set i (some d)) ∧ Mv (AO A O) H (AO A fun j => if j = i then some a else O j) H' := by
  have sub : ∀ b, AO A (fun j => if j = i then some a else O j) b → AO A O b ∨ b = a := fun b hb => by
    rcases hb with hb | ⟨j, hb⟩
    · exact .inl (.inl hb)
    · by_cases hj : j = i
      · simp only [hj, if_true, Option.some.injEq] at hb
        exact .inr hb.symm
      · simp only [hj, if_false] at hb
        exact .inl (.inr ⟨j, hb⟩)
  have mv : Mv (AO A O) H (AO A fun j => if j = i then some a else O j) H' := ⟨fun b hb => (sub b hb).elim .inl fun z => by rw [z]; exact .inr hn, fun b o e1 _ => s b o e1⟩
  have mv2 : Mv (fun b => AO A O b ∨ b = a) H' (AO A fun j => if j = i then some a else O j) H' := Mv.less sub
  have ha : H' a ≠ none := by
    obtain ⟨u, hu, _, _⟩ := h.obj
    rw [hu]
    exact fun z => nomatch z
  refine ⟨⟨by simp [R.len], fun b hb => ne_none s (R.a0 b hb), R.same.trans s, fun j dj h1 h2 => ?_, fun j dj h1 h2 => ?_, fun j b hb => ?_, fun j k b hj hk => ?_, fun b hb => ?_, fun q hq => ?_⟩, mv⟩
  rotate_right
  · obtain ⟨z1, z2, z3, fvs, z4, z5⟩ := R.exq q hq
    have hne : i ≠ q.i := fun z => hxi q hq z.symm
    refine ⟨z1, ?_, ?_, fvs, s _ _ z4, RepF.move mv _ _ z5⟩ <;> rw [List.getElem?_set_ne hne]
    · exact z2
    · exact z3
  · have hj : i ≠ j := fun z => by
      subst z
      rw [hi] at h2
      cases h2
    rw [List.getElem?_set_ne hj] at h1
    obtain ⟨v, q, r⟩ := R.vals j dj h1 h2
    exact ⟨v, by rw [List.getElem?_set_ne hj]; exact q, Rep.move mv _ _ r⟩
  · by_cases hj : i = j
    · subst hj
      have hl : i < e.length := by
        have := (List.getElem?_eq_some_iff.mp h1).1
        simpa using this
      rw [List.getElem?_set_self hl] at h1
      cases h1
      exact ⟨a, by simp, List.getElem?_set_self (by rw [R.len]; exact hl), h.move mv2 rfl⟩
    · rw [List.getElem?_set_ne hj] at h1
      obtain ⟨b, p1, p2, p3⟩ := R.owns j dj h1 h2
      have hj' : ¬ j = i := fun z => hj z.symm
      refine ⟨b, by simp only [hj', if_false]; exact p1, by rw [List.getElem?_set_ne hj]; exact p2, p3.move mv ?_⟩
      cases z : H b with
      | none => exact absurd z (R.fresh j b p1).2.1
      | some o => exact s b o z
  · by_cases hj : j = i
    · simp only [hj, if_true, Option.some.injEq] at hb
      subst hb
      refine ⟨?_, ha, fun z => R.a0 a z hn⟩
      cases z : H0.hp a with
      | none => rfl
      | some o =>
        rw [R.same a o z] at hn
        cases hn
    · simp only [hj, if_false] at hb
      exact ⟨(R.fresh j b hb).1, ne_none s (R.fresh j b hb).2.1, (R.fresh j b hb).2.2⟩
  · have old : ∀ l b, O l = some b → b ≠ a := fun l b hl z => by
      rw [z] at hl
      exact (R.fresh l a hl).2.1 hn
    by_cases h1 : j = i
    · by_cases h2 : k = i
      · rw [h1, h2]
      · simp only [h1, if_true, Option.some.injEq] at hj
        simp only [h2, if_false] at hk
        exact absurd hj.symm (old k b hk)
    · by_cases h2 : k = i
      · simp only [h2, if_true, Option.some.injEq] at hk
        simp only [h1, if_false] at hj
        exact absurd hk.symm (old j b hj)
      · simp only [h1, if_false] at hj
        simp only [h2, if_false] at hk
        exact R.inj j k b hj hk
  · have h1 : ¬ 0 = i := fun z => by omega
    simp only [h1, if_false]
    exact R.pin b hb
end
/-- what is given back; fr: an object that is new and its caller's own -/
inductive Rm where
  | val | own | lent | two
def RetOk (fr : Rm) (K : Frag) (A : AS) (H0 : Base) (H' : Hp) (d : D) (v : V) : Prop := match fr with
  | .val => Rep K A H' d v
  | .own => ∃ a, v = .ref a ∧ H0.hp a = none ∧ OwnAt K (fun b => A b ∨ b = a) H' a d
  | .lent => ∃ r l, d = .tup [r, l] ∧ Rep K A H' r v ∧ ∀ a, H0.px = some a → OwnAt K A H' a l
  | .two => ∃ a b c x y, v = .ref a ∧ d = .tup [x, y] ∧ SqT K H' a [.ref b, .ref c] ∧ b ≠ c ∧ H0.hp b = none ∧ H0.hp c = none ∧ OwnAt K (fun z => (A z ∨ z = b) ∨ z = c) H' b x ∧ OwnAt K (fun z => (A z ∨ z = b) ∨ z = c) H' c y
/-- what must hold behind a statement; oN: who owns behind it, oB: who owns at a break, a continue -/
def EndOk3 (fr : Rm) (K : Frag) (A : AS) (H0 : Base) (oN oB : Ow) (O : OW) (H : Hp) (D : Ends) : Fl → Prop
  | .next e' => ∀ O' σ' H', ER K A H0 oN O' σ' H' e' → Mv (AO A O) H (AO A O') H' → D.nx σ' H'
  | .ret d => ∀ v H', Same H0.hp H' → RetOk fr K A H0 H' d v → D.rt v H'
  | .brk e' => ∀ O' σ' H', ER K A H0 oB O' σ' H' e' → Mv (AO A O) H (AO A O') H' → D.bk σ' H'
  | .cnt e' => ∀ O' σ' H', ER K A H0 oB O' σ' H' e' → Mv (AO A O) H (AO A O') H' → D.ct σ' H'
abbrev EndOk (fr : Rm) (K : Frag) (A : AS) (H0 : Base) (ow : Ow) (O : OW) (H : Hp) (D : Ends) : Fl → Prop := EndOk3 fr K A H0 ow ow O H D
theorem EndOk3.to {fr : Rm} {K : Frag} {A : AS} {H0 : Base} {oN oB : Ow} {O O1 : OW} {H H1 : Hp} {D : Ends} (m : Mv (AO A O) H (AO A O1) H1) : ∀ {f : Fl}, EndOk3 fr K A H0 oN oB O H D f → EndOk3 fr K A H0 oN oB O1 H1 D f
  | .next _, h => fun O' σ' H' R n => h O' σ' H' R (m.trans n)
  | .ret _, h => h
  | .brk _, h => fun O' σ' H' R n => h O' σ' H' R (m.trans n)
  | .cnt _, h => fun O' σ' H' R n => h O' σ' H' R (m.trans n)
def badS (K : Frag) (W : WX) (A : AS) (H0 : Base) (c : String) (fs : List (String × D)) : Prop :=
  ∀ σ' da H' fvs, Same H0.hp H' → H' da = some (.xd fvs) → RepF K A H' fs fvs → W (.ref (ca K c)) (some da) σ' H'
theorem badS.e {K : Frag} {W : WX} {A : AS} {H0 : Base} {ow : Ow} {O : OW} {σ : L2.St} {H : Hp} {e : Env} (R : ER K A H0 ow O σ H e) {c : String} {fs : List (String × D)} (h : badS K W A H0 c fs) : badE K W A O σ H c fs := fun da H' fvs s q r =>
  h σ da H' fvs (R.same.trans s) q (RepF.move (Mv.less fun b => .inl) _ _ r)
def tS3 (fr : Rm) (K : Frag) (W : WX) (ow oN oB : Ow) (m : SM) : TS := fun D σ H => ∃ A H0 O e, ER K A H0 ow O σ H e ∧ Out (m e) (EndOk3 fr K A H0 oN oB O H D) (badS K W A H0)
abbrev tS (fr : Rm) (K : Frag) (W : WX) (ow : Ow) (m : SM) : TS := tS3 fr K W ow ow ow m
section
variable {fr : Rm} {X : Cx} {W : WX} {ow : Ow} {a b c e : Expr} {es : List Expr} {m ma mb mc : EM} {st : Stmt} {rest body orelse : List Stmt} {u v : SM} {t : TM} {pos : Pos}
theorem Out.se {α : Type} {K : Frag} {W : WX} {A : AS} {H0 : Base} {ow : Ow} {O : OW} {σ : L2.St} {H : Hp} {e : Env} (R : ER K A H0 ow O σ H e) {r : Res α} {good : α → Prop} (h : Out r good (badS K W A H0)) : Out r good (badE K W A O σ H) := h.imp (fun _ _ x => x) fun _ _ x => x.e R
/-! ### blocks -/
theorem ss_nil : PSs X [] (tS fr X.K W ow skip) := PSs.of pss_nil fun D σ H ⟨A, H0, O, en, R, q⟩ => q O σ H R Mv.refl
theorem ss_one (h : PS X st (tS fr X.K W ow u)) : PSs X [st] (tS fr X.K W ow u) := pss_one h
theorem ss_cons (h : PS X st (tS fr X.K W ow u)) (k : PSs X rest (tS fr X.K W ow v)) : PSs X (st :: rest) (tS fr X.K W ow (seq u v)) :=
  PSs.of (pss_cons h k) fun D σ H ⟨A, H0, O, en, R, q⟩ => ⟨A, H0, O, en, R, (Out.bind q).good fun f q1 => by
    cases f with
    | next e' => exact fun O' σ' H' R' mv => ⟨A, H0, O', e', R', q1.good fun f q2 => q2.to mv⟩
    | ret d => exact q1
    | brk e' => exact q1
    | cnt e' => exact q1⟩
/-! ### assignments -/
theorem s_set {i : Nat} (h : PS X st (tAsg (tE X.K W ow m) (gName i))) (hi : ow i = false) : PS X st (tS fr X.K W ow (asg (gnm i) m)) :=
  PS.of h fun D σ H ⟨A, H0, O, en, R, q⟩ => ⟨A, H0, O, en, R, ((Out.bind q).se R).good fun d q1 v H1 s1 r1 => q1 O _ H1 ((R.to s1).set hi r1) (Mv.same s1)⟩
theorem s_gen {ts : List Nat} {g : GM} (h : PS X st (tAsg (tE X.K W ow m) (tGt X.K ow ts g))) : PS X st (tS fr X.K W ow (asg g m)) :=
  PS.of h fun D σ H ⟨A, H0, O, en, R, q⟩ => ⟨A, H0, O, en, R, ((Out.bind q).se R).good fun d q1 v H1 s1 r1 => by
    cases hg : g d en with
    | none =>
      rw [hg] at q1
      exact q1.elim
    | some e' =>
      rw [hg] at q1
      exact ⟨A, H0, O, en, d, e', R.to s1, r1, hg, fun σ' R' _ _ => q1 O σ' H1 R' (Mv.same s1)⟩⟩
/-- x += e and its like, x a clean name -/
theorem s_aug {i : Nat} {f : D → D → Res D} {te : TE} {tp : TIp} (h : PS X st (tAug i te tp)) (hte : te = tW X.K W ow m) (hp : ∀ x y H Q, r2 X.K f x y H Q → tp x y H Q) (hf : NoEx2 f) (hi : ow i = false) : PS X st (tS fr X.K W ow (aug i f m)) := by
  subst hte
  refine PS.of h fun D σ H ⟨A, H0, O, en, R, q⟩ => ?_
  have q0 := Out.bind q
  unfold var at q0
  split at q0
  · rename_i d0 hd0
    obtain ⟨v0, e0, r0⟩ := R.vals i d0 hd0 hi
    refine ⟨v0, e0, A, H0, O, en, R, ((Out.bind q0).se R).good fun d1 q1 v1 H1 s1 r1 => hp _ _ _ _ ?_⟩
    have R1 := R.to s1
    cases e : f d0 d1 with
    | exc _ _ => exact (hf.exc e).elim
    | pick _ _ => exact (hf.pick e).elim
    | stuck =>
      rw [e] at q1
      exact q1.elim
    | ok d =>
      rw [e] at q1
      exact ⟨_, d0, d1, d, RepW.of (Rep.move (Mv.same s1) _ _ r0), r1, R1.there, e, fun v2 H2 s2 r2 => q1 O _ H2 ((R1.to s2).set hi r2) (Mv.same (s1.trans s2))⟩
  · exact q0.elim
theorem s_ret (h : PE X a (tE X.K W ow.off m)) : PS X (.Return (some a) pos) (tS .val X.K W ow (ret m)) :=
  PS.of (ps_ret h) fun D σ H ⟨A, H0, O, en, R, q⟩ => ⟨A, _, _, en, R.freeze, ((Out.bind (show Out (ret m en) _ (badS X.K W A ⟨H0.hp, none⟩) from q)).se R.freeze).good fun d q1 v H1 s1 r1 =>
    q1 v H1 (R.same.trans s1) (Rep.move (Mv.less fun b => .inl) _ _ r1)⟩
theorem s_if (hc : PT X a (tT X.K W ow t)) (hb : PSs X body (tS fr X.K W ow u)) (ho : PSs X orelse (tS fr X.K W ow v)) : PS X (.If a body orelse pos) (tS fr X.K W ow (ite t u v)) :=
  PS.of (ps_if hc hb ho) fun D σ H ⟨A, H0, O, en, R, q⟩ => ⟨A, H0, O, en, R, ((Out.bind q).se R).good fun k q1 H1 s1 => by
    cases k with
    | true =>
      rw [if_pos rfl] at q1 ⊢
      exact ⟨A, H0, O, en, R.to s1, q1.good fun f q2 => q2.to (Mv.same s1)⟩
    | false =>
      rw [if_neg (by decide)] at q1 ⊢
      exact ⟨A, H0, O, en, R.to s1, q1.good fun f q2 => q2.to (Mv.same s1)⟩⟩
/-! ### loops -/
theorem for_of {it : IM} {ts : List Nat} {g : GM} {D : Ends} {σ : L2.St} {H : Hp} (h : tS fr X.K W ow (for_ it g u) D σ H) : tFor (tI Mv X.K W ow it) (tGt X.K ow ts g) (tS fr X.K W ow u) D σ H := by
  obtain ⟨A, H0, O, en, R, q⟩ := h
  exact ⟨A, H0, O, en, R, ((Out.bind q).se R).good fun xs q1 J H1 s1 itm => by
    refine ⟨fun i m σ' H' => m = xs.length - i ∧ i ≤ xs.length ∧ ∃ O' e', ER X.K A H0 ow O' σ' H' e' ∧ Mv (AO A O) H1 (AO A O') H' ∧ Out (forL (forB g u) (xs.drop i) e') (EndOk fr X.K A H0 ow O H1 D) (badS X.K W A H0),
      ⟨xs.length, by simp, Nat.zero_le _, O, en, R.to s1, Mv.refl, q1.good fun f q2 => q2.to (Mv.same s1)⟩, ?_⟩
    rintro i m σ' H' ⟨rfl, hi, O', e', R', mv, q2⟩
    have im := itm i (AO A O') H' mv
    by_cases hlt : i < xs.length
    · right
      obtain ⟨hgo, hy⟩ := im.1 hlt
      refine ⟨hgo, fun σ' H' => ∃ O' e', ER X.K A H0 ow O' σ' H' e' ∧ Mv (AO A O) H1 (AO A O') H' ∧ Out (forL (forB g u) (xs.drop (i + 1)) e') (EndOk fr X.K A H0 ow O H1 D) (badS X.K W A H0), fun σ2 H2 ⟨a1, a2, a3⟩ => ⟨xs.length - (i + 1), by omega, rfl, by omega, a1, a2, a3⟩, fun x H3 y => ?_⟩
      obtain ⟨s3, d, hd, rd⟩ := hy x H3 y
      have hd' : d = xs[i] := by
        rw [List.getElem?_eq_getElem hlt] at hd
        exact (Option.some.inj hd).symm
      subst hd'
      rw [List.drop_eq_getElem_cons hlt] at q2
      simp only [forL, forB] at q2
      cases hg' : g xs[i] e' with
      | none =>
        rw [hg'] at q2
        exact q2.elim
      | some e2 =>
        rw [hg', lift_some, bind_ok] at q2
        have mv3 : Mv (AO A O) H1 (AO A O') H3 := mv.trans (Mv.same s3)
        refine ⟨A, H0, O', e', xs[i], e2, R'.to s3, rd, hg', fun σ2 R2 _ _ => ⟨A, H0, O', e2, R2, (Out.bind q2).good fun f q2 => ?_⟩⟩
        · cases f with
          | next e3 => exact fun O3 σ3 H4 R3 m3 => ⟨O3, e3, R3, mv3.trans m3, q2⟩
          | cnt e3 => exact fun O3 σ3 H4 R3 m3 => ⟨O3, e3, R3, mv3.trans m3, q2⟩
          | brk e3 =>
            have q3 : EndOk fr X.K A H0 ow O H1 D (.next e3) := q2
            exact fun O3 σ3 H4 R3 m3 => q3 O3 σ3 H4 R3 (mv3.trans m3)
          | ret d => exact q2
    · left
      have hi2 : i = xs.length := by omega
      subst hi2
      rw [List.drop_length] at q2
      have q3 : EndOk fr X.K A H0 ow O H1 D (.next e') := q2
      exact ⟨im.2 rfl, q3 O' σ' H' R' mv⟩⟩
theorem s_for {tg iter : Expr} {it : IM} {ts : List Nat} {g : GM} (hp : PassesOwn (model X.prog X.w) X.A X.env X.xe) (hc : X.calm = true) (hi : PI X tg iter (tI Mv X.K W ow it)) (hg : PG X tg (tGt X.K ow ts g)) (hb : PSs X body (tS fr X.K W ow u))
    (hs : ∀ x, foldedSetIterable iter X.env x = pure x := by intro _; rfl) : PS X (.For tg iter body [] pos) (tS fr X.K W ow (for_ it g u)) :=
  PS.of (ps_for hp hc hi hg hb hs) fun D σ H h => for_of h
theorem s_while (hp : PassesOwn (model X.prog X.w) X.A X.env X.xe) (hc : PT X a (tT X.K W ow t)) (hb : PSs X body (tS fr X.K W ow u)) : PS X (.While a body [] pos) (tS fr X.K W ow (while_ t u)) :=
  PS.of (ps_while hp hc hb) fun D σ H ⟨A, H0, O, en, R, q⟩ => by
    refine ⟨fun k σ' H' => ∃ O' e', ER X.K A H0 ow O' σ' H' e' ∧ Mv (AO A O) H (AO A O') H' ∧ Out (whileL t u k e') (EndOk fr X.K A H0 ow O H D) (badS X.K W A H0), ⟨FUEL, O, en, R, Mv.refl, q⟩, ?_⟩
    rintro k σ' H' ⟨O', e', R', mv, q1⟩
    cases k with
    | zero => exact q1.elim
    | succ k =>
      refine ⟨A, H0, O', e', R', ((Out.bind q1).se R').good fun bb q2 H2 s2 => ?_⟩
      have R2 := R'.to s2
      have mv2 := mv.trans (Mv.same (A := AO A O') s2)
      cases bb with
      | false =>
        rw [if_neg (by decide)] at q2
        dsimp only
        rw [if_neg (by decide)]
        have q3 : EndOk fr X.K A H0 ow O H D (.next e') := q2
        exact q3 O' σ' H2 R2 mv2
      | true =>
        rw [if_pos rfl] at q2
        dsimp only
        rw [if_pos rfl]
        refine ⟨fun σ' H' => ∃ O' e', ER X.K A H0 ow O' σ' H' e' ∧ Mv (AO A O) H (AO A O') H' ∧ Out (whileL t u k e') (EndOk fr X.K A H0 ow O H D) (badS X.K W A H0), fun σ3 H3 a => ⟨k, Nat.lt_succ_self _, a⟩, A, H0, O', e', R2, (Out.bind q2).good fun f q2 => ?_⟩
        · cases f with
          | next e3 => exact fun O3 σ3 H4 R3 m3 => ⟨O3, e3, R3, mv2.trans m3, q2⟩
          | cnt e3 => exact fun O3 σ3 H4 R3 m3 => ⟨O3, e3, R3, mv2.trans m3, q2⟩
          | brk e3 =>
            have q3 : EndOk fr X.K A H0 ow O H D (.next e3) := q2
            exact fun O3 σ3 H4 R3 m3 => q3 O3 σ3 H4 R3 (mv2.trans m3)
          | ret d => exact q2
/-! ### a name's own list, object -/
theorem var_ok {α : Type} {i : Nat} {en : Env} {k : D → Res α} {good : α → Prop} {bad : String → List (String × D) → Prop} (h : Out (var i en >>= k) good bad) : ∃ d, en[i]? = some (some d) ∧ Out (k d) good bad := by
  unfold var at h
  split at h
  · rename_i d hd
    exact ⟨d, hd, h⟩
  · exact h.elim
theorem sqL {K : Frag} {H : Hp} {a : Addr} {vs : List V} (h : H a = some (.lst vs)) : L2.tyV K "list" (.ref a) H := .inl ⟨rfl, vs, .inl (.inl h)⟩
theorem own_mv {K : Frag} {A : AS} {H0 : Base} {ow : Ow} {O : OW} {σ : L2.St} {H : Hp} {en : Env} (R : ER K A H0 ow O σ H en) {i : Nat} {a : Addr} (p1 : O i = some a) {u o : HO} (e : H a = some u) (hs : ¬ still u) : Mv (AO A O) H (AO A O) (upd H a o) :=
  ⟨fun b hb => .inl hb, fun b o e3 hb => by
    rw [upd_ne]
    · exact e3
    · intro z
      subst z
      rcases hb with hb | hb
      · exact hb (.inr ⟨i, p1⟩)
      · rw [e] at e3
        cases e3
        exact hs hb⟩
/-- x.append(e) -/
theorem s_app {i : Nat} (h : PS X st (tDrop (tBM X.K "list" rAppend (tVar i) (tCons (tE X.K W ow m) tNil)))) (hi : ow i = true) : PS X st (tS fr X.K W ow (app i m)) :=
  PS.of h fun D σ H ⟨A, H0, O, en, R, q⟩ => by
    obtain ⟨l, hl, q1⟩ := var_ok q
    obtain ⟨a, p1, p2, p3⟩ := R.owns i l hl hi
    cases l with
    | lst ds =>
      obtain ⟨vs, e1, r1⟩ := p3
      refine ⟨.ref a, p2, sqL e1, A, H0, O, en, R, ((Out.bind q1).se R).good fun d q2 v H1 s1 r2 => ?_⟩
      split at q2
      · rename_i hz
        have e2 := s1 _ _ e1
        refine ⟨a, vs, v, rfl, rfl, e2, by rw [← r1.length]; exact hz, ?_⟩
        have R1 := R.to s1
        have mv := own_mv R1 p1 (o := .lst (vs ++ [v])) e2 fun z => z
        have R2 := R1.write (o := .lst (vs ++ [v])) (d' := .lst (ds ++ [d])) hi hl p1 ⟨_, upd_same, RepL.move mv _ _ ((RepL.move (Mv.same s1) _ _ r1).append (RepL.one r2))⟩
        exact q2 O σ _ R2 ((Mv.same s1).trans mv)
      · exact q2.elim
    | _ => exact q1.elim
/-- x[j] = e -/
theorem s_setL {i : Nat} {mj : EM} (h : PS X st (tAsg (tE X.K W ow m) (gSub (tVar i) (tE X.K W ow mj) (rSetX X.K)))) (hi : ow i = true) : PS X st (tS fr X.K W ow (setL i mj m)) :=
  PS.of h fun D σ H ⟨A, H0, O, en, R, q⟩ => by
    obtain ⟨l, hl, q1⟩ := var_ok q
    obtain ⟨a, p1, p2, p3⟩ := R.owns i l hl hi
    cases l with
    | lst ds =>
      obtain ⟨vs, e1, r1⟩ := p3
      refine ⟨A, H0, O, en, R, ((Out.bind q1).se R).good fun d q2 v H1 s1 r2 => ⟨.ref a, p2, A, H0, O, en, R.to s1, ((Out.bind q2).se (R.to s1)).good fun k q3 w H2 s2 r3 => ?_⟩⟩
      cases k with
      | int z =>
        simp only at q3
        split at q3
        · rename_i n hn
          have s12 := s1.trans s2
          have e2 := s12 _ _ e1
          have r3' : w = .int z := r3
          subst r3'
          refine .inl ⟨a, vs, z, n, rfl, rfl, e2, by rw [← r1.length]; exact hn, ?_⟩
          have R2 := R.to s12
          have mv := own_mv R2 p1 (o := .lst (vs.set n v)) e2 fun z => z
          have R3 := R2.write (o := .lst (vs.set n v)) (d' := .lst (ds.set n d)) hi hl p1 ⟨_, upd_same, RepL.move mv _ _ (RepL.set (Rep.move (Mv.same s2) _ _ r2) n (RepL.move (Mv.same s12) _ _ r1))⟩
          exact q3 O σ _ R3 ((Mv.same s12).trans mv)
        · exact q3.elim
      | _ => exact q3.elim
    | dic t kvs =>
      refine ⟨A, H0, O, en, R, ((Out.bind q1).se R).good fun d q2 v H1 s1 r2 => ⟨.ref a, p2, A, H0, O, en, R.to s1, ((Out.bind q2).se (R.to s1)).good fun k q3 w H2 s2 r3 => ?_⟩⟩
      split at q3
      · rename_i hk
        rw [Bool.and_eq_true, decide_eq_true_eq] at hk
        have s12 := s1.trans s2
        have R2 := R.to s12
        obtain ⟨a', p1', _, p3'⟩ := R2.owns i _ hl hi
        rw [p1] at p1'
        cases p1'
        refine .inr ⟨AO A O, t, kvs, k, d, a, rfl, .inr ⟨i, p1⟩, p3', r3, Rep.move (Mv.same s2) _ _ r2, hk.1, hk.2, fun ob g => ?_⟩
        obtain ⟨u0, hu0, hs0, _⟩ := OwnAt.obj (d := .dic t kvs) p3'
        have mv := own_mv R2 p1 (o := ob) hu0 hs0
        have R3 := R2.write (o := ob) (d' := .dic t (putD k d kvs)) hi hl p1 g
        exact q3 O σ _ R3 ((Mv.same s12).trans mv)
      · exact q3.elim
    | _ => exact q1.elim
/-- self.f = e -/
theorem s_setF {i : Nat} {cs : List String} {f : String} (F : ∀ c ∈ cs, Cls X.K (ca X.K c) ∧ NoAttr X.K (ca X.K c) (Str.ofString f)) (h : PS X st (sFld X.K (tVar i) (tE X.K W ow m) (Str.ofString f))) (hi : ow i = true) : PS X st (tS fr X.K W ow (setF i cs f m)) :=
  PS.of h fun D σ H ⟨A, H0, O, en, R, q⟩ => by
    obtain ⟨l, hl, q1⟩ := var_ok q
    obtain ⟨a, p1, p2, p3⟩ := R.owns i l hl hi
    cases l with
    | ins c fs =>
      obtain ⟨dx, fvs, e1, r1⟩ := p3
      simp only at q1
      split at q1
      · rename_i hz
        obtain ⟨f1, f2⟩ := F c (by simpa using hz.1)
        refine ⟨A, H0, O, en, R, ((Out.bind q1).se R).good fun d q2 v H1 s1 r2 => ⟨.ref a, p2, a, _, dx, fvs, rfl, s1 _ _ e1, f1, f2, by rw [← r1.length]; exact hz.2, ?_⟩⟩
        have R1 := R.to s1
        have mv := own_mv R1 p1 (o := .ins (ca X.K c) dx (L2.putF (Str.ofString f) v fvs)) (s1 _ _ e1) fun z => z
        have R2 := R1.write (o := .ins (ca X.K c) dx (L2.putF (Str.ofString f) v fvs)) (d' := .ins c (putF f d fs)) hi hl p1 ⟨dx, _, upd_same, RepF.move mv _ _ (RepF.put r2 (RepF.move (Mv.same s1) _ _ r1))⟩
        exact q2 O σ _ R2 ((Mv.same s1).trans mv)
      · exact q1.elim
    | _ => exact q1.elim
end
end Py
/-! Calls, defs, classes. -/
namespace Py
open PySem L2
theorem takes0N {X : Cx} : L2N.Takes X (fun _ _ _ _ => False) := fun u s' x => by
  obtain ⟨a, B, sI, pins, σ, H, cls, d, x1, x2, x3, x4, x5, x6, x7, x8, z⟩ := x
  exact z.elim
theorem passLN {X : Cx} : Passes (L2N.CX X.prog X.w) X E0 := fun pins σ H s e s' I h => by
  obtain ⟨a, B, H', cls, d, x1, x2, x3, x4, x5, x6, x7, z⟩ := h
  exact z.elim
/-- where one stands: k calls deep there is room -/
structure Ctx (X : Cx) (W : WX) (k : Nat) : Prop where
  calm : X.calm = true
  tk : L2N.Takes X W
  po : PassesOwn (model X.prog X.w) X.A X.env X.xe
  hr : Room k X.A
  nd : X.N.Nodup
theorem Ctx.blk {X : Cx} {W : WX} {k : Nat} (c : Ctx X W k) (s : Shared) (H : Hp) (scope : Scope) (cenv : PySem.Env) (fp : List Addr) : Ctx (X.blk s H scope cenv fp) W0 k := ⟨c.calm, takes0N, PassesOwn.never, c.hr, c.nd⟩
/-- what a def asks of its number of arguments -/
structure Ar (n : Nat) (fm : List D → Res D) : Prop where
  st : ∀ ds, ds.length ≠ n → fm ds = .stuck
theorem Ar.len {n : Nat} {fm : List D → Res D} {ds : List D} {good : D → Prop} {bad : String → List (String × D) → Prop} (h : Ar n fm) (q : Out (fm ds) good bad) : ds.length = n := by
  by_cases hl : ds.length = n
  · exact hl
  · rw [h.st ds hl] at q
    exact q.elim
theorem ar_fn {p n : Nat} {body : SM} : Ar p (fn p n body) := ⟨fun ds h => if_neg h⟩
/-- a def that computes m of its arguments -/
def spM (K : Frag) (p : Nat) (m : List D → Res D) : Sp := fun vs H Q E => ∃ A ds, RepL K A H ds vs ∧ ds.length = p ∧ (∀ a, A a → H a ≠ none) ∧
  Out (m ds) (fun d => ∀ v H', Same H H' → Rep K A H' d v → Q v H') (fun c fs => ∀ da H' fvs, Same H H' → H' da = some (.xd fvs) → RepF K A H' fs fvs → E (.ref (ca K c)) (some da) H')
/-- an __init__ that makes m of the arguments behind self -/
def spI (K : Frag) (p : Nat) (cls : String) (m : List D → Res D) : Sp := fun vs H Q E => ∃ A x dx H1 ds ws, vs = .ref x :: ws ∧ H = upd (upd H1 dx (.own x)) x (.ins (ca K cls) dx []) ∧ H1 x = none ∧ H1 dx = none ∧ dx ≠ x ∧ RepL K A H1 ds ws ∧ ds.length + 1 = p ∧ (∀ a, A a → H1 a ≠ none) ∧
  Out (m ds) (fun d => ∀ H', Same H1 H' → Rep K A H' d (.ref x) → Q .non H') (fun c fs => ∀ da H' fvs, Same H1 H' → H' da = some (.xd fvs) → RepF K A H' fs fvs → E (.ref (ca K c)) (some da) H')
section
variable {X : Cx} {W : WX} {ow : Ow} {a b c e : Expr} {es : List Expr} {m ma mb mc : EM} {am : AM} {pos p : Pos} {k j n : Nat} {f C : Addr} {fd : FuncData} {ps : List Str} {x : Str} {fm : List D → Res D}
theorem call_of {E : St → XK} (hE : ∀ σ cls d H, W cls d σ H → E σ cls d H) {σ : L2.St} {H : Hp} {Q : VK} (h : tE X.K W ow (call fm am) σ H Q) (hn : Ar n fm) : tCallSD (spM X.K n fm) [] E (aE X.K W ow am) σ H Q := by
  obtain ⟨A, H0, O, en, R, q⟩ := h
  refine ⟨A, H0, O, en, R, (Out.bind q).good fun ds q1 vs H1 s1 r1 => ?_⟩
  dsimp only
  rw [List.append_nil]
  exact ⟨AO A O, ds, paired_rep r1, hn.len q1, (R.to s1).there, q1.imp (fun d _ k v H2 s2 r2 => k v H2 (s1.trans s2) r2) fun c fs z da H2 fvs s2 q2 r2 => hE _ _ _ _ (z da H2 fvs (s1.trans s2) q2 r2)⟩
theorem x_call (T : Ctx X W j) (F : FnOk X.prog X.w X.K X.mg X.base (L2N.CX X.prog X.w) k f fd ps (spM X.K n fm)) (hn : Ar n fm) (hk : k ≤ j) (hg : Gl X x) (hm : X.mg x = some (.ref f)) (hkp : PySem.W.keepIn X.K (.ref f) = true) (hb : Binds X.K fd ps [])
    (ha : PA X (e :: es) (aE X.K W ow am)) (hdb : (x == ("__debug__" : Str)) = false := by decide) (he : starEach (e :: es) X.env = (false, eval e X.env) :: starEach es X.env := by rfl) (hpl : (backTo pos (starEach es X.env)).any (·.1) = false := by rfl) :
    PE X (.Call (.Name x p) (e :: es) [] pos) (tE X.K W ow (call fm am)) :=
  PE.of (pe_callSD (E := WE W) F (T.hr.mono hk) hg hm hkp hb .nil (fun σ => L2N.passAt T.tk σ) ha hdb he hpl) fun _ _ _ h => call_of (fun _ _ _ _ z => z) h hn
/-- C(..) of an own class: what it may let out, at the slots that stand now -/
def tMk (C : Addr) (sp : Sp) (E : St → XK) (t : TA) : TE := fun σ H Q => t σ H fun vs H1 => ∀ y dy, H1 y = none → H1 dy = none → dy ≠ y → sp (.ref y :: vs) (upd (upd H1 dy (.own y)) y (.ins C dy [])) (fun v H2 => v = .non ∧ Q (.ref y) H2) (E σ)
theorem mk_run {CX : CXT} {E : XK} {sp : Sp} {pins : List (Addr × Obj)} {σ : St} {H : Hp} {s : Shared} {Q : VK} {us : List Value} {vs : List V} (M : Mk X.K C f) (F : FnOk X.prog X.w X.K X.mg X.base CX k f fd ps sp) (hr : Room (k + 1) X.A) (hb : Binds X.K fd ps [])
    (hx : PassesAt CX X σ E) (I : Inv X pins σ H s) (rv : Vals vs us)
    (h : ∀ y dy, H y = none → H dy = none → dy ≠ y → sp (.ref y :: vs) (upd (upd H dy (.own y)) y (.ins C dy [])) (fun v H2 => v = .non ∧ Q (.ref y) H2) E) : wpAny (model X.prog X.w) X.A (PySem.call (.ref C) us) (EP X pins σ Q) X.xe s := by
  have e0 := I.hok.fresh (Nat.le_refl s.heap.objs.size)
  have e1 := I.hok.fresh (Nat.le_succ s.heap.objs.size)
  have q := h _ _ e1 e0 (Nat.ne_of_lt (Nat.lt_succ_self _))
  have J := Inv.made (C := C) I
  have rw' : Vals (V.ref (s.heap.objs.size + 1) :: vs) (Value.ref (s.heap.objs.size + 1) :: us) := .cons rfl rv
  have hl : (Value.ref (s.heap.objs.size + 1) :: us).length = ps.length := rw'.length.symm.trans (F.len _ _ _ _ q)
  have b := hb _ (Value.ref (s.heap.objs.size + 1) :: us) J.kIn (by rw [List.append_nil]; exact hl)
  rw [List.append_nil] at b
  refine wpAny_call (make_map (f := f) I.kIn M.makes M.init (beq_iff_eq.mp M.fn) (codeAny_mono (F.run _ X.stack _ _ ⟨Value.ref (s.heap.objs.size + 1) :: us, []⟩ _ _ _ E (hr.make C us []) (J.env0.make C us []) b rw' q) ?_))
  rintro (u | fl) s' z
  · exact hx pins _ _ u s' J z
  · cases fl with
    | ret u =>
      obtain ⟨v, H', I3, r3, rfl, q3⟩ := J.after z
      exact ⟨r3, V.ref (s.heap.objs.size + 1), H', I3, rfl, q3⟩
    | next => exact False.elim z
    | brk => exact False.elim z
    | cont => exact False.elim z
theorem mk_pe {CX : CXT} {E : St → XK} {sp : Sp} {t : TA} (M : Mk X.K C f) (F : FnOk X.prog X.w X.K X.mg X.base CX k f fd ps sp) (hr : Room (k + 1) X.A) (hg : Gl X x) (hm : X.mg x = some (.ref C)) (hb : Binds X.K fd ps []) (hx : ∀ σ, PassesAt CX X σ (E σ))
    (ha : PA X (e :: es) t) (hdb : (x == ("__debug__" : Str)) = false := by decide) (he : starEach (e :: es) X.env = (false, eval e X.env) :: starEach es X.env := by rfl) (hpl : (backTo pos (starEach es X.env)).any (·.1) = false := by rfl) :
    PE X (.Call (.Name x p) (e :: es) [] pos) (tMk C sp E t) :=
  ⟨fun pins s σ H Q I h => wpAny_Call_Name_kw (ld_glob I hg hm (PySem.W.callWith_K (h₀ := X.base) I.ok.mod.kin M.kp (thn (ha.run pos pins s σ H _ I h) fun us s1 ⟨vs, H1, I1, r, q⟩ => ⟨I1.kIn, mk_run M F hr hb (hx σ) I1 r q⟩) he hpl) hdb)⟩
theorem x_make {cls : String} (T : Ctx X W j) (M : Mk X.K (ca X.K cls) f) (F : FnOk X.prog X.w X.K X.mg X.base (L2N.CX X.prog X.w) k f fd ps (spI X.K n cls fm)) (hn : ∀ ds, ds.length + 1 ≠ n → fm ds = .stuck)
    (hk : k + 1 ≤ j) (hg : Gl X x) (hm : X.mg x = some (.ref (ca X.K cls))) (hb : Binds X.K fd ps [])
    (ha : PA X (e :: es) (aE X.K W ow am)) (hdb : (x == ("__debug__" : Str)) = false := by decide) (he : starEach (e :: es) X.env = (false, eval e X.env) :: starEach es X.env := by rfl) (hpl : (backTo pos (starEach es X.env)).any (·.1) = false := by rfl) :
    PE X (.Call (.Name x p) (e :: es) [] pos) (tE X.K W ow (call fm am)) :=
  PE.of (mk_pe (E := WE W) M F (T.hr.mono hk) hg hm hb (fun σ => L2N.passAt T.tk σ) ha hdb he hpl) fun σ H Q ⟨A, H0, O, en, R, q⟩ => by
    refine ⟨A, H0, O, en, R, (Out.bind q).good fun ds q1 vs H1 s1 r1 y dx hy hdx hne => ?_⟩
    have sm : Same H1 (upd (upd H1 dx (.own y)) y (.ins (ca X.K cls) dx [])) := fun b o e => by
      rw [upd_ne (ne_of_none e hy), upd_ne (ne_of_none e hdx)]
      exact e
    refine ⟨AO A O, y, dx, H1, ds, vs, rfl, rfl, hy, hdx, hne, paired_rep r1, ?_, (R.to s1).there, ?_⟩
    · by_cases hl : ds.length + 1 = n
      · exact hl
      · rw [hn ds hl] at q1
        exact q1.elim
    · exact q1.imp (fun d _ k H2 s2 r2 => ⟨rfl, k _ H2 (s1.trans s2) r2⟩) fun c fs z da H2 fvs s2 q2 r2 => z da H2 fvs (s1.trans s2) q2 r2
end
/-! ### defs -/
section
variable {P : Program} {w : World} {K : Frag} {mg : Str → Option Value} {base : Heap} {name qual : Str} {params : Arguments} {body : List Stmt} {scope : Scope} {dvs : List V} {kws : List (Str × V)} {f : Addr} {fd : FuncData} {N ps : List Str} {k : Nat} {ow oN oB : Ow} {m : SM}
theorem start_get {N : List Str} {vs : List V} {i : Nat} {v : V} (h : vs[i]? = some v) : (L2.start N vs)[i]? = some (some v) := by
  unfold L2.start
  have hi := (List.getElem?_eq_some_iff.mp h).1
  rw [List.getElem?_append_left (by simpa using hi), List.getElem?_map, h]
  rfl
abbrev WD (E : XK) : WX := fun c d _ H => E c d H
/-- a def's start -/
theorem spM_start {E : XK} {vs : List V} {H : Hp} {Q : VK} (hpre : ps.length ≤ N.length) (hx : ow.x = none) (hp : ∀ i, i < ps.length → ow i = false) (h : spM K ps.length (fn ps.length N.length m) vs H Q E) :
    tS3 .val K (WD E) ow oN oB m { nx := fun _ H' => Q .non H', rt := Q } (L2.start N vs) H := by
  obtain ⟨AV, ds, r, hl, ha, q⟩ := h
  refine ⟨AV, ⟨H, none⟩, fun _ => none, ds.map some ++ List.replicate (N.length - ps.length) none, ?_, ?_⟩
  · have hlv := r.length
    have hN : ps.length ≤ N.length := hpre
    refine ⟨?_, ha, Same.refl H, fun i d h1 h2 => ?_, fun i d h1 h2 => ?_, fun i a h => (nomatch h), fun i j a h => (nomatch h), fun a h => (nomatch h), XFact.none hx⟩
    · unfold L2.start
      simp only [List.length_append, List.length_map, List.length_replicate]
      omega
    · by_cases hi : i < ds.length
      · rw [List.getElem?_append_left (by simpa using hi), List.getElem?_map, List.getElem?_eq_getElem hi] at h1
        simp only [Option.map_some, Option.some.injEq] at h1
        subst h1
        obtain ⟨v, hv, rv⟩ := r.get (List.getElem?_eq_getElem hi)
        exact ⟨v, start_get hv, Rep.move (Mv.less fun b hb => hb.elim id fun ⟨_, z⟩ => nomatch z) _ _ rv⟩
      · rw [List.getElem?_append_right (by simpa using hi)] at h1
        rw [List.getElem?_replicate] at h1
        split at h1 <;> cases h1
    · by_cases hi : i < ds.length
      · rw [hp i (by omega)] at h2
        cases h2
      · rw [List.getElem?_append_right (by simpa using hi)] at h1
        rw [List.getElem?_replicate] at h1
        split at h1 <;> cases h1
  · unfold fn at q
    rw [if_pos hl] at q
    refine (Out.bind q).imp (fun fl _ q => ?_) fun c fs q => ?_
    · cases fl with
      | next e' => exact fun O' σ' H' R' _ => q .non H' R'.same rfl
      | ret d => exact fun v H' s' r' => q v H' s' r'
      | brk e' => exact q.elim
      | cnt e' => exact q.elim
    · exact fun σ' da H' fvs s' q' r' => q da H' fvs s' q' r'
theorem pre_le {N ps : List Str} (h : N.take ps.length = ps) : ps.length ≤ N.length := by
  have h2 := congrArg List.length h
  rw [List.length_take] at h2
  omega
/-- a def whose body computes m -/
theorem fn_ok (F : FunD K name qual params body scope dvs kws f fd) (S : FnScope N ps scope) (hx : ow.x = none) (hp : ∀ i, i < ps.length → ow i = false)
    (hb : ∀ (cdv : Value) (A : Around) (outer : List PySem.Env) (s : Shared) (H : Hp) (E : XK), Ctx (cxOf (L2N.CX P w) P w K mg base N qual scope f cdv A outer s H E) (WD E) k →
      PSs (cxOf (L2N.CX P w) P w K mg base N qual scope f cdv A outer s H E) body (tS3 .val K (WD E) ow oN oB m)) :
    FnOk P w K mg base (L2N.CX P w) (k + 1) f fd ps (spM K ps.length (fn ps.length N.length m)) := by
  refine F.ok S (fun vs H Q E ⟨A, ds, r, h, _⟩ => r.length.symm.trans h) (fun cdv A outer s H vs Q E hr h => ?_)
  exact ⟨tS3 .val K (WD E) ow oN oB m, hb cdv A outer s H E ⟨rfl, L2N.takes_of rfl rfl rfl rfl, passes_of rfl, hr, S.nd⟩, spM_start (pre_le S.pre) hx hp h⟩
/-- an __init__ whose body fills self, which stands in slot 0 -/
theorem init_ok {cls : String} (F : FunD K name qual params body scope dvs kws f fd) (S : FnScope N ps scope) (hox : ow.x = none) (h0 : ow 0 = true) (hp0 : 0 < ps.length) (hp : ∀ i, 0 < i → i < ps.length → ow i = false)
    (hb : ∀ (cdv : Value) (A : Around) (outer : List PySem.Env) (s : Shared) (H : Hp) (E : XK), Ctx (cxOf (L2N.CX P w) P w K mg base N qual scope f cdv A outer s H E) (WD E) k →
      PSs (cxOf (L2N.CX P w) P w K mg base N qual scope f cdv A outer s H E) body (tS .val K (WD E) ow m)) :
    FnOk P w K mg base (L2N.CX P w) (k + 1) f fd ps (spI K ps.length cls (made ps.length N.length cls m)) := by
  refine F.ok S (fun vs H Q E ⟨A, x, dx, H1, ds, ws, h1, _, _, _, _, r, h, _⟩ => by rw [h1, List.length_cons, ← r.length]; exact h) (fun cdv A outer s H vs Q E hr h => ?_)
  obtain ⟨AV, x, dx, H1, ds, ws, rfl, hH, hx, hdx, hne, r, hl, ha, q⟩ := h
  have sd : Same H1 (upd H1 dx (.own x)) := fun b o e => by
    rw [upd_ne (ne_of_none e hdx)]
    exact e
  have hx2 : upd H1 dx (.own x) x = none := by
    rw [upd_ne fun z => hne z.symm]
    exact hx
  have s2 : Same (upd H1 dx (.own x)) H := by
    rw [hH]
    exact new_same hx2
  have s1 : Same H1 H := sd.trans s2
  refine ⟨tS .val K (WD E) ow m, hb cdv A outer s H E ⟨rfl, L2N.takes_of rfl rfl rfl rfl, passes_of rfl, hr, S.nd⟩, AV, ⟨upd H1 dx (.own x), some x⟩, fun i => if i = 0 then some x else none, (some (.ins cls []) :: ds.map some) ++ List.replicate (N.length - ps.length) none, ?_, ?_⟩
  · have hlv := r.length
    have hN : ps.length ≤ N.length := by
      have := S.pre
      have h2 := congrArg List.length this
      rw [List.length_take] at h2
      omega
    have nx : ∀ i a, (if i = 0 then some x else none) = some a → i = 0 ∧ a = x := fun i a h => by
      by_cases hi : i = 0
      · rw [if_pos hi] at h
        cases h
        exact ⟨hi, rfl⟩
      · rw [if_neg hi] at h
        cases h
    have mv : Mv AV H1 (AO AV fun i => if i = 0 then some x else none) H := ⟨fun b hb => by
      rcases hb with hb | ⟨i, hb⟩
      · exact .inl hb
      · rw [(nx i b hb).2]
        exact .inr hx, fun b o e _ => s1 b o e⟩
    refine ⟨?_, fun b hb => ne_none s1 (ha b hb), s2, fun i d h1 h2 => ?_, fun i d h1 h2 => ?_, fun i a h => ?_, fun i j a h h' => (nx i a h).1.trans (nx j a h').1.symm, fun a h => ?_, XFact.none hox⟩
    · unfold L2.start
      simp only [List.length_append, List.length_map, List.length_replicate, List.length_cons]
      omega
    · cases i with
      | zero =>
        rw [h0] at h2
        cases h2
      | succ i =>
        by_cases hi : i < ds.length
        · rw [List.getElem?_append_left (by simpa using hi), List.getElem?_cons_succ, List.getElem?_map, List.getElem?_eq_getElem hi] at h1
          simp only [Option.map_some, Option.some.injEq] at h1
          subst h1
          obtain ⟨v, hv, rv⟩ := r.get (List.getElem?_eq_getElem hi)
          exact ⟨v, start_get (by simpa using hv), Rep.move mv _ _ rv⟩
        · rw [List.getElem?_append_right (by simpa using hi)] at h1
          rw [List.getElem?_replicate] at h1
          split at h1 <;> cases h1
    · cases i with
      | zero =>
        simp only [List.cons_append, List.getElem?_cons_zero, Option.some.injEq] at h1
        subst h1
        refine ⟨x, rfl, start_get rfl, dx, [], ?_, by simp [RepF]⟩
        rw [hH]
        exact upd_same
      | succ i =>
        by_cases hi : i < ds.length
        · rw [hp (i + 1) (by omega) (by omega)] at h2
          cases h2
        · rw [List.getElem?_append_right (by simpa using hi)] at h1
          rw [List.getElem?_replicate] at h1
          split at h1 <;> cases h1
    · obtain ⟨_, rfl⟩ := nx i a h
      refine ⟨hx2, ?_, fun z => ha a z hx⟩
      rw [hH, upd_same]
      exact fun z => nomatch z
    · cases h
      rfl
  · unfold made at q
    rw [if_pos hl] at q
    refine (Out.bind q).imp (fun fl _ q => ?_) fun c fs q => ?_
    · cases fl with
      | next e' =>
        refine fun O' σ' H' R' _ => ?_
        cases e' with
        | nil => exact q.elim
        | cons d0 r0 =>
          cases d0 with
          | none => exact q.elim
          | some d1 =>
            cases d1 with
            | ins c fs =>
              have q2 : ∀ H', Same H1 H' → Rep K AV H' (.ins c fs) (.ref x) → Q .non H' := q
              refine q2 H' (sd.trans R'.same) ?_
              have hpin : O' 0 = some x := R'.pin x rfl
              obtain ⟨a, p1, p2, dx', fvs, p3, p4⟩ := R'.owns 0 (.ins c fs) rfl h0
              rw [hpin] at p1
              cases p1
              simp only [Rep]
              exact ⟨x, dx', fvs, rfl, fun z => ha x z hx, p3, RepF.move (Mv.less fun b => .inl) _ _ p4⟩
            | _ => exact q.elim
      | ret d => exact q.elim
      | brk e' => exact q.elim
      | cnt e' => exact q.elim
    · exact fun σ' da H' fvs s' q' r' => q da H' fvs (sd.trans s') q' r'
end
end Py
/-! enumerate over tuples and lists. -/
namespace PySem
open Builtin
theorem py_en_new {v : Value} {o : Obj} {H : Heap → Prop} (B : Begins v o H) :
    Meets (Builtin.«enumerate.__new__» ⟨[.type "enumerate", v], []⟩) (fun _ R s => H s.heap ∧
      R (.ok (.ret (.ref (s.heap.push o).objs.size))) { s with heap := (s.heap.push o).push { cls := .type "enumerate", data := .fields #[.none, .bool false, .ref s.heap.objs.size, rawInt 0, .none, .none] } }) :=
  .of_wp fun prog w A R s h => by
    obtain ⟨hp, g, d, tk, os⟩ := s
    obtain ⟨h1, h⟩ := h
    have hsub := sub_enumerate
    have iter1 : ∀ {A' : Around} {E : Value → Shared → Prop} {Q : Value → Shared → Prop}, Q (.ref hp.objs.size) ⟨hp.push o, g, d, tk, os⟩ → wpAny (model prog w) A' (pyIter v) Q E ⟨hp, g, d, tk, os⟩ :=
      fun q => B.iter prog w _ _ ⟨hp, g, d, tk, os⟩ _ h1 q
    wp_walk using iter1
    refine wpAny_stack_any fun st => wpAny_pure ?_
    split
    · rename_i c _ _ _ _ _
      cases (c == Value.type "enumerate")
      · wp_walk using iter1
        exact ⟨_, rfl, h⟩
      · wp_walk using iter1
        exact ⟨_, rfl, h⟩
    · wp_walk using iter1
      exact ⟨_, rfl, h⟩
theorem py_en_call {prog : Program} {w : World} {A : Around} {E : Value → Shared → Prop} {s : Shared} {v : Value} {o : Obj} {H : Heap → Prop} {Q : Value → Shared → Prop} (B : Begins v o H) (h1 : H s.heap)
    (h : ∀ h', IsEnum h' (s.heap.objs.size + 1) s.heap.objs.size 0 .none → h'.get? s.heap.objs.size = some o → h'.objs.size = s.heap.objs.size + 2 →
      (∀ b o, s.heap.get? b = some o → h'.get? b = some o) → Q (.ref (s.heap.objs.size + 1)) { s with heap := h' }) :
    wpAny (model prog w) A (call (.type "enumerate") [v]) Q E s := by
  refine callType_new F.called_enumerate (by decide) (F.typeCall_enumerate_1 _) (F.newCall_enumerate_1 _) (fun obj => F.args_object_init_2 obj _) F.entry_enumerate_new (py_en_new B) ⟨h1, ?_⟩
  have hz : (s.heap.push o).objs.size = s.heap.objs.size + 1 := Heap.size_push ..
  show _ ∧ _
  rw [hz]
  have he : IsEnum ((s.heap.push o).push { cls := .type "enumerate", data := .fields #[.none, .bool false, .ref s.heap.objs.size, rawInt 0, .none, .none] }) (s.heap.objs.size + 1) s.heap.objs.size 0 .none := by
    have this := Heap.get?_push_size (s.heap.push o) (o := { cls := .type "enumerate", data := .fields #[.none, .bool false, .ref s.heap.objs.size, rawInt 0, .none, .none] }) rfl
    rw [hz] at this
    exact this
  exact ⟨⟨_, he, rfl⟩, h _ he (Heap.get?_push_of_some _ (Heap.get?_push_size _ B.free)) (by rw [Heap.size_push, hz]) fun b o x => Heap.get?_push_of_some _ (Heap.get?_push_of_some _ x)⟩
end PySem
namespace Py
open PySem L2
/-- enumerate over the tuple at a -/
def Iet (K : Frag) (a : Addr) : It :=
  ⟨fun i H => ∃ (xs : List V) (x : V), SqT K H a xs ∧ xs[i]? = some x, fun i H v H' => ∃ T x, v = .ref T ∧ H T = none ∧ H' = upd H T (.tup [.int (i : Nat), x]) ∧ ∀ xs, SqT K H a xs → xs[i]? = some x, fun i H => ∃ xs : List V, SqT K H a xs ∧ i = xs.length⟩
theorem turn_enumT {P : Program} {w : World} {K : Frag} {elts : List Expr} {kk : Nat} {tpos : Pos} (a e it : Addr) :
    Turn P w K (.Tuple elts kk tpos) (Iet K a) [e, it] e (fun i h => (∃ old, IsEnum h e it ((i : Nat) : Int) old) ∧ h.IsTupleIter it a i ∧ e ≠ it ∧ a ≠ it ∧ a ≠ e) where
  mem := by simp
  obj := fun i h st b hb => by
    obtain ⟨⟨old, he⟩, ⟨o, ho, hc, hd⟩, _⟩ := st
    rcases (by simpa using hb : b = e ∨ b = it) with z | z
    · subst z
      exact ⟨_, he, fun v q => nomatch q⟩
    · subst z
      exact ⟨o, ho, fun v q => by rw [hd] at q; cases q⟩
  keep := fun i h h' st k => by
    obtain ⟨⟨old, he⟩, hi, n1, n2, n3⟩ := st
    exact ⟨⟨old, k e (by simp) _ he⟩, hi.at fun o q => k it (by simp) o q, n1, n2, n3⟩
  item := by
    intro X hP hw hK hc i pins s σ H E I hf st hg
    subst hP hw hK
    obtain ⟨⟨old, he⟩, hit, n1, n2, n3⟩ := st
    obtain ⟨xs, x, hq, hx⟩ := hg
    obtain ⟨its, rv, tp, hz⟩ := I.tuple hq
    obtain ⟨u, hu, ru⟩ := rv.get hx
    have hel : e < s.heap.objs.size := Heap.lt_size he
    have hil : it < s.heap.objs.size := by
      obtain ⟨_, q, _⟩ := hit
      exact Heap.lt_size q
    have hi : i < its.toArray.size := by
      have := (List.getElem?_eq_some_iff.mp hu).1
      simpa using this
    have htp : s.heap.IsTuple a its.toArray := tp
    refine wpAny_pyNext_enum_itemD (Draws.tuple (prog := X.prog) (w := X.w) (A := X.A.in1) (I.ok.hd hc) it a n2 its.toArray) he (show _ ∧ _ from ⟨hit, htp⟩) hi n1 (by simp [n1, n3.symm]) fun x' h' tk hP' ho hst' hT hsz hk => ?_
    have hxu : x' = u := by
      have q1 : its[i]? = some x' := by simpa using hP'
      rw [hu] at q1
      exact (Option.some.inj q1).symm
    subst hxu
    refine ⟨_, rfl, wpAny_letOwnedTupleGo_enum (s := { s with heap := h', toks := tk + 1 }) ho fun h'' he' sb => ?_⟩
    have hT2 : h''.get? s.heap.objs.size = some { cls := .type "tuple", data := .seq #[.int i tk, x'] } := (sb.2 _ (Nat.ne_of_gt hel)).trans hT
    have new : ObjOk X.prog X.w (upd H s.heap.objs.size (.tup [.int (i : Nat), x])) h'' s.heap.objs.size (.tup [.int (i : Nat), x]) :=
      ⟨by show 2 ≤ sizeLine; decide, [.int i tk, x'], .cons ⟨_, rfl⟩ (.cons ru .nil), ⟨_, hT2, rfl, _, rfl⟩⟩
    have I1 : Inv X pins σ (upd H s.heap.objs.size (.tup [.int (i : Nat), x])) { s with heap := h'', toks := tk + 1 } :=
      I.turnedNew (ch := [e, it]) (fun b ob hb q => (sb.2 b fun z => hb (by simp [z])).trans (hk b ob (fun z => hb (by simp [z])) (fun z => hb (by simp [z])) q)) hf (Nat.le_refl _) new
    refine ⟨.ref s.heap.objs.size, _, I1, rfl, ⟨_, x, rfl, I.hok.fresh (Nat.le_refl _), rfl, fun ys hy => by rw [I.tuple_inj hy hq]; exact hx⟩, ⟨⟨x', ?_⟩, hst'.1.at fun o q => (sb.2 it n1.symm).trans q, n1, n2, n3⟩, fun b hb => ?_⟩
    · have e1 : ((i + 1 : Nat) : Int) = (i : Int) + 1 := by omega
      rw [e1]
      exact he'
    · have hb' : b < s.heap.objs.size := by
        rcases (by simpa using hb : b = e ∨ b = it) with z | z
        · subst z
          exact hel
        · subst z
          exact hil
      rw [upd_ne (Nat.ne_of_lt hb')]
      exact (hf b hb).1
  done := by
    intro X hP hw hK hc i pins s σ H E I hf st hg
    subst hP hw hK
    obtain ⟨⟨old, he⟩, hit, n1, n2, n3⟩ := st
    obtain ⟨xs, hq, hx⟩ := hg
    obtain ⟨its, rv, tp, hz⟩ := I.tuple hq
    obtain ⟨f0, f1, f2, f3, f4, f5⟩ := hf it (by simp)
    have hl := rv.length
    have htp : s.heap.IsTuple a its.toArray := tp
    have hi2 : i = its.toArray.size := by
      rw [List.size_toArray]
      omega
    subst hi2
    exact wpAny_pyNext_enum_endD (Draws.tuple (prog := X.prog) (w := X.w) (A := X.A.in1) (I.ok.hd hc) it a n2 its.toArray) he (show _ ∧ _ from ⟨hit, htp⟩) fun h' eb => ⟨rfl, I.turned (t' := s.toks) (fun b o hb q => eb b o hb q) f0 f1 f3 f4 f5⟩
  self := fun A i s Q E st h => by
    obtain ⟨⟨_, he⟩, _⟩ := st
    exact wpAny_pyIter_enum he h
section
variable {X : Cx} {W : WX} {ow : Ow} {a b c e : Expr} {es elts : List Expr} {m ma mb mc : EM} {pos p tpos : Pos} {kk : Nat}
def iEnumE (K : Frag) (ta : TA) : TI := fun σ H R => ta σ H fun vs H1 => ∃ a, vs = [.ref a] ∧ ((∃ xs, SqL K H1 a xs ∧ R (Ite K a) H1) ∨ ∃ xs, SqT K H1 a xs ∧ R (Iet K a) H1)
theorem pi_enumE {ta : TA} (hg : Gl X "enumerate") (hm : X.mg "enumerate" = none) (ha : PA X [e] ta) (hs : starEach [e] X.env = [(false, eval e X.env)] := by rfl) : PI X (.Tuple elts kk tpos) (.Call (.Name "enumerate" p) [e] [] pos) (iEnumE X.K ta) := by
  refine ⟨fun pins s σ H R I h => ?_⟩
  refine PyProof.Rows.Call_ (ld_blt I hg hm PyProof.Rows.boot_enumerate (PyProof.Rows.callWith_type1 (thn (ha.run pos pins s σ H _ I h) fun us s1 ⟨vs, H1, I1, r1, q1⟩ => ?_) hs rfl))
  obtain ⟨a, ex, q⟩ := q1
  subst ex
  obtain ⟨u, rfl, ru⟩ := vals1 r1
  cases ru
  have fin : ∀ b ∈ [s1.heap.objs.size + 1, s1.heap.objs.size], FpOk X pins H1 b := fun b hb => by
    have hle : s1.heap.objs.size ≤ b := by
      rcases (by simpa using hb : b = s1.heap.objs.size + 1 ∨ b = s1.heap.objs.size) with z | z
      · rw [z]
        exact Nat.le_add_right _ _
      · rw [z]
        exact Nat.le_refl _
    exact I1.fpOk hle (I1.hok.fresh hle)
  rcases q with ⟨xs, hq, q⟩ | ⟨xs, hq, q⟩
  · obtain ⟨its, rv, tp, hz⟩ := I1.list hq
    refine py_en_call (begins_list a its.toArray) tp.isList fun h' he hit hsz hk => wpAny_pyIter_enum he ?_
    exact ⟨s1.heap.objs.size + 1, [s1.heap.objs.size + 1, s1.heap.objs.size], _, _, H1, rfl, I1.kept (t' := s1.toks) hk, turn_enum a (s1.heap.objs.size + 1) s1.heap.objs.size, ⟨⟨.none, he⟩, ⟨_, hit, rfl, rfl⟩, Nat.succ_ne_self _⟩, fin, q⟩
  · obtain ⟨its, rv, tp, hz⟩ := I1.tuple hq
    have hlt : a < s1.heap.objs.size := tp.lt
    refine py_en_call (begins_tuple a its.toArray) tp fun h' he hit hsz hk => wpAny_pyIter_enum he ?_
    exact ⟨s1.heap.objs.size + 1, [s1.heap.objs.size + 1, s1.heap.objs.size], _, _, H1, rfl, I1.kept (t' := s1.toks) hk, turn_enumT a (s1.heap.objs.size + 1) s1.heap.objs.size, ⟨⟨.none, he⟩, ⟨_, hit, rfl, rfl⟩, Nat.succ_ne_self _, Nat.ne_of_lt hlt, Nat.ne_of_lt (Nat.lt_succ_of_lt hlt)⟩, fin, q⟩
theorem enumL_get : ∀ {ds : List D} {n i : Nat} {d : D}, ds[i]? = some d → (enumL n ds)[i]? = some (.tup [.int ((n + i : Nat) : Int), d])
  | [], _, _, _, h => by simp at h
  | x :: ds, n, 0, d, h => by
    simp at h
    subst h
    rfl
  | x :: ds, n, i + 1, d, h => by
    simp only [enumL, List.getElem?_cons_succ]
    rw [enumL_get (n := n + 1) (by simpa using h)]
    rw [Nat.add_right_comm]
    rfl
theorem enumL_len : ∀ (ds : List D) (n : Nat), (enumL n ds).length = ds.length
  | [], _ => rfl
  | x :: ds, n => by
    simp only [enumL, List.length_cons]
    rw [enumL_len ds]
theorem enum_item {K : Frag} {A : AS} {H : Hp} {T : Addr} {i : Nat} {d : D} {v : V} (hn : H T = none) (r : Rep K A H d v) : Same H (upd H T (.tup [.int (i : Nat), v])) ∧ Rep K A (upd H T (.tup [.int (i : Nat), v])) (.tup [.int ((0 + i : Nat) : Int), d]) (.ref T) := by
  refine ⟨new_same hn, new_tup ?_ hn⟩
  rw [Nat.zero_add]
  simp only [RepL]
  exact ⟨_, _, rfl, rfl, v, [], rfl, r, rfl⟩
theorem itm_enumT {K : Frag} {A : AS} {H : Hp} {a : Addr} {ds : List D} {vs : List V} (q : SqT K H a vs) (r : RepL K A H ds vs) : Itm Mv K A (Iet K a) (enumL 0 ds) H := fun i A2 H2 m => by
  have q2 := SqT.move m q
  have r2 := RepL.move m ds vs r
  rw [enumL_len]
  refine ⟨fun hi => ?_, fun hi => ⟨vs, q2, by rw [← r.length]; exact hi⟩⟩
  obtain ⟨v, hv, rv⟩ := r2.get (i := i) (List.getElem?_eq_getElem hi)
  refine ⟨⟨vs, v, q2, hv⟩, fun x H3 ⟨T, x', e1, hn, e2, k⟩ => ?_⟩
  subst e1 e2
  have := k vs q2
  rw [hv] at this
  cases this
  obtain ⟨s1, r1⟩ := enum_item (i := i) hn rv
  exact ⟨s1, _, enumL_get (List.getElem?_eq_getElem hi), r1⟩
theorem itm_enumL {M : MvT} {K : Frag} {A : AS} {H : Hp} {a : Addr} {ds : List D} {vs : List V} (hM : ∀ A2 H2, M A H A2 H2 → Mv A H A2 H2 ∧ Rd H2 a (.lst vs)) (r : RepL K A H ds vs) : Itm M K A (Ite K a) (enumL 0 ds) H := fun i A2 H2 m => by
  obtain ⟨mv, rd⟩ := hM A2 H2 m
  have q2 : SqL K H2 a vs := .inl rd
  have r2 := RepL.move mv ds vs r
  rw [enumL_len]
  refine ⟨fun hi => ?_, fun hi => ⟨vs, q2, by rw [← r.length]; exact Nat.le_of_eq hi.symm⟩⟩
  obtain ⟨v, hv, rv⟩ := r2.get (i := i) (List.getElem?_eq_getElem hi)
  refine ⟨⟨vs, v, q2, hv⟩, fun x H3 ⟨T, x', e1, hn, e2, k⟩ => ?_⟩
  subst e1 e2
  have := k vs q2
  rw [hv] at this
  cases this
  obtain ⟨s1, r1⟩ := enum_item (i := i) hn rv
  exact ⟨s1, _, enumL_get (List.getElem?_eq_getElem hi), r1⟩
theorem i_enum (hg : Gl X "enumerate") (hm : X.mg "enumerate" = none) (ha : PE X a (tE X.K W ow ma)) (hs : starEach [a] X.env = [(false, eval a X.env)] := by rfl) : PI X (.Tuple elts kk tpos) (.Call (.Name "enumerate" p) [a] [] pos) (tI Mv X.K W ow (ienum ma)) :=
  PI.of (pi_enumE hg hm (pa_cons ha pa_nil hs) hs) fun σ H R' ⟨A, H0, O, en, R, q⟩ => ⟨A, H0, O, en, R, (Out.bind (Out.bind q)).good fun d q1 v H1 s1 r1 => by
    cases d with
    | lst xs =>
      obtain ⟨p, vs, rfl, n, h, r⟩ := (by simpa only [Rep] using r1 : ∃ a vs, v = .ref a ∧ ¬ AO A O a ∧ Rd H1 a (.lst vs) ∧ RepL X.K (AO A O) H1 xs vs)
      exact ⟨p, rfl, .inl ⟨vs, .inl h, q1 _ H1 s1 (itm_enumL (fun A2 H2 m => ⟨m, (Rd.move m h n).1⟩) r)⟩⟩
    | tup xs =>
      obtain ⟨p, vs, rfl, h, r⟩ := (by simpa only [Rep] using r1 : ∃ a vs, v = .ref a ∧ SqT X.K H1 a vs ∧ RepL X.K (AO A O) H1 xs vs)
      exact ⟨p, rfl, .inr ⟨vs, h, q1 _ H1 s1 (itm_enumT h r)⟩⟩
    | _ => exact q1.elim⟩
end
end Py
/-! Comprehensions as expressions, what the module's names stand for, the ends. -/
namespace Py
open PySem L2
theorem f_le {K : Frag} {W : WX} {ow : Ow} {m : EM} {σ : L2.St} {H : Hp} {Q : VK} (h : tE K W ow m σ H Q) : tF K W ow m σ H Q := by
  obtain ⟨A, H0, O, en, R, q⟩ := h
  refine ⟨A, H0, O, en, R, q.good fun d k a H' n s r => k (.ref a) H' s ?_⟩
  have na : ¬ AO A O a := fun z => R.there a z n
  have mv : Mv (fun b => AO A O b ∨ b = a) H' (AO A O) H' := Mv.less fun b x => .inl x
  exact r.rep mv na
section
variable {X : Cx} {W : WX} {ow : Ow} {a b c e : Expr} {es : List Expr} {m ma mb mc : EM} {am : AM} {pos p spos : Pos} {k j n : Nat}
variable {elt tg iter : Expr} {ifs : List Expr} {scope : Scope} {own : List (Str × Nat)} {it : IM} {g : GM} {t : TM} {me : EM} {ts : List Nat}
theorem ts_nil : PTs X [] (tT X.K W ow yes) := ⟨fun pins s σ H Q I ⟨A, H0, O, en, R, q⟩ => pts_nil.run pins s σ H Q I (q H (Same.refl H))⟩
/-- [elt for tg in iter if ..] -/
theorem f_lc (T : Ctx X W j) (hi : PI X tg iter (tI Gr X.K W ow it)) (ok : BlkOk X.N X.env.scope scope own)
    (hg : ∀ (s : Shared) (H : Hp) (C : Addr) (cl : List (Str × Addr)) (fp : List Addr), Ctx (X.blk s H scope (compEnvC scope cl C X.env) fp) W0 j → PG (X.blk s H scope (compEnvC scope cl C X.env) fp) tg (tGt X.K ow ts g))
    (ht : ∀ (s : Shared) (H : Hp) (C : Addr) (cl : List (Str × Addr)) (fp : List Addr), Ctx (X.blk s H scope (compEnvC scope cl C X.env) fp) W0 j → PTs (X.blk s H scope (compEnvC scope cl C X.env) fp) ifs (tT X.K W0 ow t))
    (he : ∀ (s : Shared) (H : Hp) (C : Addr) (cl : List (Str × Addr)) (fp : List Addr), Ctx (X.blk s H scope (compEnvC scope cl C X.env) fp) W0 j → PE (X.blk s H scope (compEnvC scope cl C X.env) fp) elt (tE X.K W0 ow me))
    (hts : ∀ i ∈ ts, i ∈ own.map (·.2)) (hx : ow.x = none := by rfl) (hs : ∀ x, foldedSetIterable iter X.env x = pure x := by intro _; rfl) :
    PE X (.ListComp elt [⟨tg, iter, ifs, 0⟩] scope pos) (tF X.K W ow (lcE it (own.map (·.2)) g t me)) :=
  PE.of (pe_lc T.calm T.nd hi ok (fun s H C cl fp => hg s H C cl fp (T.blk ..)) (fun s H C cl fp => ht s H C cl fp (T.blk ..)) (fun s H C cl fp => he s H C cl fp (T.blk ..)) hs) fun _ _ _ h => lc_of hx hts h
/-- y = [..], y a plain local -/
theorem s_lc0 {i : Nat} {y : Str} {py : Pos} (T : Ctx X W j) (hy : X.N[i]? = some y) (hyl : X.env.scope.names.lookup y = some .local)
    (hsw : swapsWith (.ListComp elt [⟨tg, iter, ifs, 0⟩] scope pos) (some (.Name y py)) spos.line X.env = pure true) (hi : PI X tg iter (tI Gr X.K W ow it)) (ok : BlkOk X.N X.env.scope scope own)
    (hg : ∀ (s : Shared) (H : Hp) (C : Addr) (cl : List (Str × Addr)) (fp : List Addr), Ctx (X.blk s H scope (compEnvC scope cl C X.env) fp) W0 j → PG (X.blk s H scope (compEnvC scope cl C X.env) fp) tg (tGt X.K ow ts g))
    (ht : ∀ (s : Shared) (H : Hp) (C : Addr) (cl : List (Str × Addr)) (fp : List Addr), Ctx (X.blk s H scope (compEnvC scope cl C X.env) fp) W0 j → PTs (X.blk s H scope (compEnvC scope cl C X.env) fp) ifs (tT X.K W0 ow t))
    (he : ∀ (s : Shared) (H : Hp) (C : Addr) (cl : List (Str × Addr)) (fp : List Addr), Ctx (X.blk s H scope (compEnvC scope cl C X.env) fp) W0 j → PE (X.blk s H scope (compEnvC scope cl C X.env) fp) elt (tE X.K W0 ow me))
    (hts : ∀ i ∈ ts, i ∈ own.map (·.2)) (hx : ow.x = none := by rfl) (hs : ∀ x, foldedSetIterable iter X.env x = pure x := by intro _; rfl) :
    PS X (.Assign [.Name y py] (.ListComp elt [⟨tg, iter, ifs, 0⟩] scope pos) spos) (tAsg (tF X.K W ow (lcE it (own.map (·.2)) g t me)) (gName i)) :=
  PS.of (ps_setLc T.calm T.nd hy hyl hsw hi ok (fun s H C cl fp => hg s H C cl fp (T.blk ..)) (fun s H C cl fp => ht s H C cl fp (T.blk ..)) (fun s H C cl fp => he s H C cl fp (T.blk ..)) hs) fun _ _ _ h => lc_of hx hts h
theorem s_f {st : Stmt} {i : Nat} (h : PS X st (tAsg (tF X.K W ow m) (gName i))) : PS X st (tAsg (tE X.K W ow m) (gName i)) := PS.of h fun _ _ _ q => f_le q
/-! ### is True -/
theorem y_isB : OpR X (compareOp .Is) (r2 X.K oisB) := imp2 op_isBl fun x y H Q ⟨A, d1, d2, d, h1, h2, _, e, k⟩ => by
  cases d1 <;> cases d2 <;> simp only [oisB, Res.ok.injEq, reduceCtorEq] at e
  subst e
  exact ⟨_, _, h1, h2, k _ H (Same.refl H) rep_bl⟩
theorem y_notB : OpR X (compareOp .IsNot) (r2 X.K onotB) := imp2 op_notBl fun x y H Q ⟨A, d1, d2, d, h1, h2, _, e, k⟩ => by
  cases d1 <;> cases d2 <;> simp only [onotB, Res.ok.injEq, reduceCtorEq] at e
  subst e
  exact ⟨_, _, h1, h2, k _ H (Same.refl H) rep_bl⟩
theorem n_isB : NoEx2 oisB := fun x y c fs => by cases x <;> cases y <;> rfl
theorem n_notB : NoEx2 onotB := fun x y c fs => by cases x <;> cases y <;> rfl
theorem b_notB : ∀ x y d, onotB x y = .ok d → ∃ k, d = .bl k := fun x y d h => by
  cases x <;> cases y <;> simp only [onotB, Res.ok.injEq, reduceCtorEq] at h
  exact ⟨_, h.symm⟩
end
/-! ### a try that runs through -/
theorem Ctx.nox {X : Cx} {W : WX} {k : Nat} (c : Ctx X W k) : Ctx X.nox W0 k := ⟨c.calm, takes0N, PassesOwn.never, c.hr, c.nd⟩
section
variable {fr : Rm} {X : Cx} {W : WX} {ow : Ow} {body : List Stmt} {u : SM} {h0 : ExceptHandler} {hs : List ExceptHandler} {pos : Pos} {j : Nat}
theorem s_thru (T : Ctx X W j) (hb : Ctx X.nox W0 j → PSs X.nox body (tS fr X.K W0 ow u)) : PS X (.Try body (h0 :: hs) [] [] pos) (tS fr X.K W ow (thru u)) :=
  PS.of (ps_try_thru0 (hb T.nox)) fun D σ H ⟨A, H0, O, en, R, q⟩ => ⟨A, H0, O, en, R, by
    have q1 : Out (noexc (u en)) (EndOk fr X.K A H0 ow O H D) (badS X.K W A H0) := q
    exact q1.noexc⟩
end
/-! ### what the module's names stand for -/
/-- the name x calls a def of n parameters that computes fm -/
def CallOk (P : Program) (w : World) (K : Frag) (mg : Str → Option Value) (base : Heap) (k : Nat) (x : Str) (d : He.DefD) (ps : List Str) (n : Nat) (fm : List D → Res D) : Prop := ∃ f fd, mg x = some (.ref f) ∧ PySem.W.keepIn K (.ref f) = true ∧ Binds K fd ps [] ∧ FnOk P w K mg base (L2N.CX P w) k f fd ps (spM K n fm) ∧ Ar n fm ∧ FunD K d.name d.qual d.params d.body d.scope [] [] f fd
/-- the name cls makes an instance -/
def MakeOk (P : Program) (w : World) (K : Frag) (mg : Str → Option Value) (base : Heap) (k : Nat) (cls : String) (n : Nat) (fm : List D → Res D) : Prop := ∃ f fd ps, mg (Str.ofString cls) = some (.ref (ca K cls)) ∧ Mk K (ca K cls) f ∧ Binds K fd ps [] ∧ FnOk P w K mg base (L2N.CX P w) k f fd ps (spI K n cls fm) ∧ ∀ ds, ds.length + 1 ≠ n → fm ds = .stuck
section
variable {X : Cx} {W : WX} {ow : Ow} {e : Expr} {es : List Expr} {am : AM} {pos p : Pos} {k j n : Nat} {x : Str} {fm : List D → Res D} {d : He.DefD} {ps : List Str}
theorem x_own1 (T : Ctx X W j) (C : CallOk X.prog X.w X.K X.mg X.base k x d ps n fm) (hk : k ≤ j) (hg : Gl X x) (ha : PA X (e :: es) (aE X.K W ow am)) (hdb : (x == ("__debug__" : Str)) = false := by decide)
    (he : starEach (e :: es) X.env = (false, eval e X.env) :: starEach es X.env := by rfl) (hpl : (backTo pos (starEach es X.env)).any (·.1) = false := by rfl) : PE X (.Call (.Name x p) (e :: es) [] pos) (tE X.K W ow (call fm am)) := by
  obtain ⟨f, fd, h1, h2, h3, h4, h5, _⟩ := C
  exact x_call T h4 h5 hk hg h1 h2 h3 ha hdb he hpl
theorem x_new {cls : String} (T : Ctx X W j) (C : MakeOk X.prog X.w X.K X.mg X.base k cls n fm) (hk : k + 1 ≤ j) (hg : Gl X (Str.ofString cls)) (ha : PA X (e :: es) (aE X.K W ow am)) (hdb : (Str.ofString cls == ("__debug__" : Str)) = false := by decide)
    (he : starEach (e :: es) X.env = (false, eval e X.env) :: starEach es X.env := by rfl) (hpl : (backTo pos (starEach es X.env)).any (·.1) = false := by rfl) : PE X (.Call (.Name (Str.ofString cls) p) (e :: es) [] pos) (tE X.K W ow (call fm am)) := by
  obtain ⟨f, fd, ps, h1, h2, h3, h4, h5⟩ := C
  exact x_make T h2 h4 h5 hk hg h1 h3 ha hdb he hpl
end
/-! ### defs by the head's facts -/
section
variable {P : Program} {w : World} {K : Frag} {mg : Str → Option Value} {base : Heap} {k : Nat} {ow oN oB : Ow} {m : SM} {name qual : Str} {params : Arguments} {body : List Stmt} {scope : Scope} {f : Addr} {N ps : List Str} {p n : Nat}
theorem def_ok {d : He.DefD} (F : ∃ fd, FunD K d.name d.qual d.params d.body d.scope [] [] f fd) (g : mg d.name = some (.ref f)) (S : FnScope N ps d.scope) (hpl : ps.length = p) (hnl : N.length = n) (hp : ∀ i, i < p → ow i = false)
    (hbind : ∀ (kV doc pm : Value) (an : Option Addr) (cdv ct : Value) (us : List Value), us.length = ps.length → bindArgs (PySem.W.fnOf d.name d.qual d.params d.body d.scope .none kV doc pm an cdv ct) ⟨us, []⟩ = pure (ps.zip us))
    (hb : ∀ (cdv : Value) (A : Around) (outer : List PySem.Env) (s : Shared) (H : Hp) (E : XK), Ctx (cxOf (L2N.CX P w) P w K mg base N d.qual d.scope f cdv A outer s H E) (WD E) k →
      PSs (cxOf (L2N.CX P w) P w K mg base N d.qual d.scope f cdv A outer s H E) d.body (tS3 .val K (WD E) ow oN oB m)) (hx : ow.x = none := by rfl) : CallOk P w K mg base (k + 1) d.name d ps p (fn p n m) := by
  obtain ⟨fd, F⟩ := F
  subst hpl hnl
  exact ⟨f, fd, g, F.kp, FunD.bindsN F hbind, fn_ok F S hx hp hb, ar_fn, F⟩
theorem ar_made {p n : Nat} {cls : String} {body : SM} : ∀ ds, ds.length + 1 ≠ p → made p n cls body ds = .stuck := fun ds h => if_neg h
theorem cls_ok {cls : String} (F : ∃ fd, FunD K name qual params body scope [] [] f fd) (g : mg (Str.ofString cls) = some (.ref (ca K cls))) (M : Mk K (ca K cls) f) (S : FnScope N ps scope) (hpl : ps.length = p) (hnl : N.length = n) (h0 : ow 0 = true) (hp0 : 0 < p) (hp : ∀ i, i < p → 0 < i → ow i = false)
    (hbind : ∀ (kV doc pm : Value) (an : Option Addr) (cdv ct : Value) (us : List Value), us.length = ps.length → bindArgs (PySem.W.fnOf name qual params body scope .none kV doc pm an cdv ct) ⟨us, []⟩ = pure (ps.zip us))
    (hb : ∀ (cdv : Value) (A : Around) (outer : List PySem.Env) (s : Shared) (H : Hp) (E : XK), Ctx (cxOf (L2N.CX P w) P w K mg base N qual scope f cdv A outer s H E) (WD E) k →
      PSs (cxOf (L2N.CX P w) P w K mg base N qual scope f cdv A outer s H E) body (tS .val K (WD E) ow m)) (hx : ow.x = none := by rfl) : MakeOk P w K mg base (k + 1) cls p (made p n cls m) := by
  obtain ⟨fd, F⟩ := F
  subst hpl hnl
  exact ⟨f, fd, ps, g, M, FunD.bindsN F hbind, init_ok F S hx h0 hp0 (fun i a b => hp i b a) hb, ar_made⟩
end
/-! ### the head's facts, tables, and one more -/
/-! ### a table of texts -/
/-! ### append -/
theorem s_app1 {fr : Rm} {X : Cx} {W : WX} {ow : Ow} {i : Nat} {o e : Expr} {m : EM} {apos cpos pos : Pos} (ho : PE X o (tVar i)) (h : PE X e (tE X.K W ow m)) (hi : ow i = true)
    (hbase : attributeBase o "append" X.env (eval o X.env) = eval o X.env := by rfl)
    (hfew : ((backTo cpos (starEach [e] X.env)).all (fun x => !x.1) && (backToKw cpos (keywordEach [] X.env)).all (fun x => x.1.isSome)
      && decide (([e] : List Expr).length + ([] : List Keyword).length + (if ([] : List Keyword).isEmpty then 0 else 1) < 30)) = true := by rfl)
    (hline : (apos.endLine == cpos.line) = true := by rfl) (hs : starEach [e] X.env = [(false, eval e X.env)] := by rfl)
    (hsw : swapsWith (.Call (.Attribute o "append" apos) [e] [] cpos) none pos.line X.env = pure false := by rfl) :
    PS X (.Expr (.Call (.Attribute o "append" apos) [e] [] cpos) pos) (tS fr X.K W ow (app i m)) :=
  s_app (ps_expr (pe_bm PySem.F.plainAttrs_list PySem.F.slot_list_append PySem.F.type_list_append mt_append ho (pa_cons h pa_nil hs) hbase hfew hline hs (by rfl)) hsw) hi
/-! ### code that is not reached -/
/-! ### the law -/
end Py
/-! What a head tells, in one place; the law's end. -/
namespace Py
open PySem L2
open He (Fa DefD Tab)
theorem Ctx.eq {X : Cx} {W : WX} {k : Nat} (T : Ctx X W k) : OpR X (compareOp .Eq) (r2 X.K oeq) := y_eq (by have := T.hr.un; omega)
theorem Ctx.ne {X : Cx} {W : WX} {k : Nat} (T : Ctx X W k) : OpR X (compareOp .NotEq) (r2 X.K one) := y_ne (by have := T.hr.un; omega)
theorem hv_len : bootBuiltins "len" = some (.builtin "len") := by decide +kernel
theorem hv_sum : bootBuiltins "sum" = some (.builtin "sum") := by decide +kernel
theorem hv_all : bootBuiltins "all" = some (.builtin "all") := by decide +kernel
theorem hv_max : bootBuiltins "max" = some (.builtin "max") := by decide +kernel
theorem hv_min : bootBuiltins "min" = some (.builtin "min") := by decide +kernel
theorem hv_int : bootBuiltins "int" = some (.type "int") := by decide +kernel
theorem hv_tuple : bootBuiltins "tuple" = some (.type "tuple") := by decide +kernel
theorem hv_list : bootBuiltins "list" = some (.type "list") := by decide +kernel
theorem hv_bool : bootBuiltins "bool" = some (.type "bool") := by decide +kernel
theorem h_iadd {K : Frag} : ∀ x y H Q, r2 K oiadd x y H Q → ipI (fun i j => i + j) x y H Q := fun x y H Q ⟨A, d1, d2, d, h1, h2, _, e, k⟩ => by
  cases d1 <;> cases d2 <;> simp only [oiadd, Res.ok.injEq, reduceCtorEq] at e
  subst e
  exact ⟨_, _, h1, h2, k _ H (Same.refl H) (flat_rep (d := .int _) rfl _ _)⟩
theorem n_iadd : NoEx2 oiadd := fun x y c fs => by cases x <;> cases y <;> rfl
/-! ### the list objects left out -/
theorem klookup_mem {a : Addr} {o : Obj} : ∀ {l : List (Addr × Obj)}, l.lookup a = some o → (a, o) ∈ l
  | [], h => by cases h
  | (b, u) :: r, h => by
    rw [List.lookup_cons] at h
    split at h
    · rename_i e
      have e1 : a = b := by simpa using e
      cases h
      subst e1
      exact List.mem_cons_self
    · exact List.mem_cons_of_mem _ (klookup_mem h)
theorem sqL_rd {K : Frag} (h : noL K = true) {H : Hp} {a : Addr} {vs : List V} (q : SqL K H a vs) : Rd H a (.lst vs) := by
  rcases q with q | ⟨o, its, n, hk, hc, _⟩
  · exact q
  · have m := List.all_eq_true.mp h _ (klookup_mem hk)
    simp [notList, hc] at m
/-! ### facts -/
structure Facts (fa : List Fa) (fn : List DefD) (ts : List Tab) (ms : List (Frag → Bool)) (w : World) (K : Frag) (mg : Str → Option Value) : Prop where
  c : He.SaysT fa fn ts w K
  m : (noL K && ms.all fun m => m K) = true
  h : ∃ h : Heap, K.In h ∧ h.Ns mainGlobals mg
section
variable {fa : List Fa} {fn : List DefD} {ts : List Tab} {ms : List (Frag → Bool)} {w : World} {K : Frag} {mg : Str → Option Value}
theorem Facts.glo (Y : Facts fa fn ts ms w K mg) (i : Nat) {x : Str} (h : fa[i]? = some (.glo x) := by rfl) : mg x = some (.ref (He.ga K x)) := by
  obtain ⟨_, KX, G⟩ := Y.h
  exact He.glo_ok KX G (Y.c.d.fact i h)
theorem Facts.free (Y : Facts fa fn ts ms w K mg) (i : Nat) {x : Str} (h : fa[i]? = some (.free x) := by rfl) : mg x = none := by
  obtain ⟨_, KX, G⟩ := Y.h
  exact He.free_ok KX G (Y.c.d.fact i h)
theorem Facts.mkr (Y : Facts fa fn ts ms w K mg) (i : Nat) {x : String} (h : fa[i]? = some (.mkr (Str.ofString x)) := by rfl) : Mk K (ca K x) (He.ma K (ca K x) "__init__") := He.mkr_ok (Y.c.d.fact i h)
theorem Facts.def_ (Y : Facts fa fn ts ms w K mg) (i : Nat) {d : DefD} (h : fn[i]? = some d := by rfl) : ∃ fd, FunD K d.name d.qual d.params d.body d.scope (d.dvs K) (d.kws K) (He.fAd K d.at_) fd := Y.c.d.def_ i h
theorem Facts.more (Y : Facts fa fn ts ms w K mg) (i : Nat) {m : Frag → Bool} (h : ms[i]? = some m := by rfl) : m K = true := by
  have q := Y.m
  rw [Bool.and_eq_true] at q
  exact List.all_eq_true.mp q.2 m (List.mem_of_getElem? h)
theorem Facts.noL (Y : Facts fa fn ts ms w K mg) : noL K = true := by
  have q := Y.m
  rw [Bool.and_eq_true] at q
  exact q.1
theorem att_ok {cs : List String} {f : String} (h : attB cs f K = true) : ∀ c ∈ cs, Cls K (ca K c) ∧ NoAttr K (ca K c) (Str.ofString f) := fun c hc => by
  have q := List.all_eq_true.mp h c hc
  rw [Bool.and_eq_true] at q
  exact ⟨He.cls_ok q.1, He.noat_ok q.2⟩
end
/-! ### the law's def -/
section
variable {P : Program} {w : World} {K : Frag} {mg : Str → Option Value} {k : Nat} {ow oN oB : Ow} {m : SM} {qual : Str} {params : Arguments} {body : List Stmt} {scope : Scope} {f : Addr} {N : List Str} {n : Nat}
theorem law_ok (F : ∃ fd, FunD K "law" qual params body scope [] [] f fd) (S : FnScope N ["script"] scope) (hnl : N.length = n) (hp : ow 0 = false)
    (hbind : ∀ (kV doc pm : Value) (an : Option Addr) (cdv ct : Value) (us : List Value), us.length = 1 → bindArgs (PySem.W.fnOf "law" qual params body scope .none kV doc pm an cdv ct) ⟨us, []⟩ = pure ((["script"] : List Str).zip us))
    (hb : ∀ (base : Heap) (cdv : Value) (A : Around) (outer : List PySem.Env) (s : Shared) (H : Hp) (E : XK), Ctx (cxOf (L2N.CX P w) P w K mg base N qual scope f cdv A outer s H E) (WD E) k →
      PSs (cxOf (L2N.CX P w) P w K mg base N qual scope f cdv A outer s H E) body (tS3 .val K (WD E) ow oN oB m)) (hx : ow.x = none := by rfl) :
    ∃ fd : FuncData, (∀ (s : Shared) (u : Value), BindsTo s fd ⟨[u], []⟩ [("script", u)]) ∧ ∀ base : Heap, FnOk P w K mg base (L2N.CX P w) (k + 1) f fd ["script"] (spM K 1 (fn 1 n m)) := by
  obtain ⟨fd, F⟩ := F
  subst hnl
  have b := FunD.bindsA (ps := ["script"]) F hbind
  exact ⟨fd, fun s v => b s [v] rfl, fun base => fn_ok F S hx (fun i hi => by
    have : i = 0 := by simpa using hi
    subst this
    exact hp) (hb base)⟩
theorem ints_rep {K : Frag} {A : AS} {H : Hp} : ∀ ns : List Int, RepL K A H (ns.map D.int) (ns.map V.int)
  | [] => by simp [RepL]
  | n :: ns => by
    simp only [List.map_cons, RepL]
    exact ⟨_, _, rfl, rfl, ints_rep ns⟩
/-- what escapes nothing can be handed out -/
theorem cx_none {P : Program} {w : World} {H : Hp} {s : Shared} {e : Value} {s' : Shared} (h : L2N.CX P w [] H s (fun _ _ _ => False) e s') : False := by
  obtain ⟨a, B, H', cls, d, rfl, fl, hok, ub, na, os, ag, hE⟩ := h
  exact hE
open PyProof.Rows in
theorem walk_ofW {l : PySem.W.OpenLaw} {n k : Nat} {q : Program} {loose : List Str} {XP : (Str → Option Value) → Heap → Prop} {YP : World → Heap → Prop} {d : DefRec} {CX : World → CXT} {x : Str}
    (hn : l.most = some n) (hn2 : n ≤ sizeLine) (hdf : d.params.defaults = []) (hr : Room k callerA)
    (F : ∀ (w : World) (mg : Str → Option Value) (fa : Addr) (h : Heap), YP w h → h.Ns mainGlobals mg → mg d.name = some (.ref fa) →
      ∃ (K : PySem.W.Frag) (fd : FuncData) (sp : Sp), K.In h ∧ (∀ (s : Shared) (u : Value), BindsTo s fd ⟨[u], []⟩ [(x, u)]) ∧
        (∀ (H : Hp) (a : Addr) (ns : List Int), ns.length ≤ n → Only H → SqL K H a (ns.map V.int) → sp [.ref a] H (fun v _ => v = .bl true) fun _ _ _ => False) ∧
        ∀ base : Heap, K.In base → base.Ns mainGlobals mg → FnOk l.prog w K mg base (CX w) k fa fd [x] sp)
    (hCX : ∀ (w : World) (H : Hp) (s : Shared) (e : Value) (s' : Shared), CX w [] H s (fun _ _ _ => False) e s' → False) :
    PySem.W.WalkO q loose XP YP l.row.toRowW d [] (fun f vs => PySem.call f vs) := by
  refine Att.attach_call hn hdf fun w s₀ s₁ mg mb fa o pm cd doc a vs ns G Y ho hd hcd hmg hobj hints hlen hg => ?_
  obtain ⟨K, fd, sp, KX, hb, hsp, hF⟩ := F w mg fa _ Y G.T.g hmg
  exact law_call KX G.T.g G.T.b G.T.builtins G.T.nolimit hg hobj hints (Nat.le_trans hlen hn2) hr hF hb (fun H hO hS => hsp H a ns hlen hO hS) fun H e s' => hCX w H s₁ e s'
end
end Py
/-! Methods of own classes, zip, constants of the module, |=. -/
namespace Py
open PySem L2
open He (Fa DefD Tab)
/-! ### methods -/
structure MethOk (P : Program) (w : World) (K : Frag) (mg : Str → Option Value) (base : Heap) (k : Nat) (cls mn : String) (n : Nat) (fm : List D → Res D) : Prop where
  ex : ∃ f fd ps, Cls K (ca K cls) ∧ Meth K (ca K cls) (Str.ofString mn) f ∧ Binds K fd ps [] ∧ FnOk P w K mg base (L2N.CX P w) k f fd ps (spM K n fm) ∧ Ar n fm
section
variable {P : Program} {w : World} {K : Frag} {mg : Str → Option Value} {base : Heap} {k : Nat} {ow oN oB : Ow} {m : SM} {f : Addr} {N ps : List Str} {p n : Nat} {cls mn : String}
theorem meth_def {d : He.DefD} (F : ∃ fd, FunD K d.name d.qual d.params d.body d.scope [] [] f fd) (hc : Cls K (ca K cls)) (hme : Meth K (ca K cls) (Str.ofString mn) f) (S : FnScope N ps d.scope) (hpl : ps.length = p) (hnl : N.length = n) (hp : ∀ i, i < p → ow i = false)
    (hbind : ∀ (kV doc pm : Value) (an : Option Addr) (cdv ct : Value) (us : List Value), us.length = ps.length → bindArgs (PySem.W.fnOf d.name d.qual d.params d.body d.scope .none kV doc pm an cdv ct) ⟨us, []⟩ = pure (ps.zip us))
    (hb : ∀ (cdv : Value) (A : Around) (outer : List PySem.Env) (s : Shared) (H : Hp) (E : XK), Ctx (cxOf (L2N.CX P w) P w K mg base N d.qual d.scope f cdv A outer s H E) (WD E) k →
      PSs (cxOf (L2N.CX P w) P w K mg base N d.qual d.scope f cdv A outer s H E) d.body (tS3 .val K (WD E) ow oN oB m)) (hx : ow.x = none := by rfl) : MethOk P w K mg base (k + 1) cls mn p (fn p n m) := by
  obtain ⟨fd, F⟩ := F
  subst hpl hnl
  exact ⟨f, fd, ps, hc, hme, FunD.bindsN F hbind, fn_ok F S hx hp hb, ar_fn⟩
end
section
variable {fa : List Fa} {fn : List DefD} {ts : List Tab} {ms : List (Frag → Bool)} {w : World} {K : Frag} {mg : Str → Option Value}
theorem Facts.cls (Y : Facts fa fn ts ms w K mg) (i : Nat) {x : String} (h : fa[i]? = some (.cls (Str.ofString x)) := by rfl) : Cls K (ca K x) := He.cls_ok (Y.c.d.fact i h)
theorem Facts.meth (Y : Facts fa fn ts ms w K mg) (i : Nat) {x : String} {m : Str} (h : fa[i]? = some (.meth (Str.ofString x) m) := by rfl) : Meth K (ca K x) m (He.ma K (ca K x) m) := He.meth_ok (Y.c.d.fact i h)
theorem Facts.int (Y : Facts fa fn ts ms w K mg) (i : Nat) {x : Str} {z : Int} (h : fa[i]? = some (.int x z) := by rfl) : ∃ t, mg x = some (.int z t) := by
  obtain ⟨_, KX, G⟩ := Y.h
  exact He.int_ok KX G (Y.c.d.fact i h)
theorem Facts.str (Y : Facts fa fn ts ms w K mg) (i : Nat) {x z : Str} (h : fa[i]? = some (.str x z) := by rfl) : ∃ t, mg x = some (.str z t) := by
  obtain ⟨_, KX, G⟩ := Y.h
  exact He.str_ok KX G (Y.c.d.fact i h)
end
/-! ### another name of a def -/
theorem CallOk.alias {P : Program} {w : World} {K : Frag} {mg : Str → Option Value} {base : Heap} {k n : Nat} {x y : String} {d : He.DefD} {ps : List Str} {fm : List D → Res D} (C : CallOk P w K mg base k (Str.ofString x) d ps n fm) (h : aliasB y x K = true)
    (gx : mg (Str.ofString x) = some (.ref (He.ga K (Str.ofString x)))) (gy : mg (Str.ofString y) = some (.ref (He.ga K (Str.ofString y)))) : CallOk P w K mg base k (Str.ofString y) d ps n fm := by
  obtain ⟨f, fd, h1, h2⟩ := C
  have e : He.ga K (Str.ofString y) = He.ga K (Str.ofString x) := of_decide_eq_true h
  exact ⟨f, fd, by rw [gy, e, ← gx, h1], h2⟩
/-! ### zip -/
/-! ### x |= y -/
end Py
namespace Py
open PySem PySem.Spec PyProof.Rows L2
/-! ### zip over any two of lists and tuples: k = true: a tuple -/
def IAt (k : Bool) (h : Heap) (it l : Addr) (i : Nat) : Prop := match k with | true => h.IsTupleIter it l i | false => h.IsListIter it l i
def SAt (k : Bool) (h : Heap) (l : Addr) (xs : Array Value) : Prop := match k with | true => h.IsTuple l xs | false => h.IsList l xs
theorem IAt.up {k : Bool} {h h' : Heap} {it l : Addr} {i : Nat} (x : IAt k h it l i) (e : ∀ o, h.get? it = some o → h'.get? it = some o) : IAt k h' it l i := by
  cases k with
  | true => exact Heap.IsTupleIter.at x e
  | false => exact Heap.IsListIter.at x e
theorem SAt.up {k : Bool} {h h' : Heap} {l : Addr} {xs : Array Value} (x : SAt k h l xs) (e : ∀ o, h.get? l = some o → h'.get? l = some o) : SAt k h' l xs := by
  cases k with
  | true => obtain ⟨o, ho, r⟩ := x; exact ⟨o, e _ ho, r⟩
  | false => obtain ⟨o, ho, r⟩ := x; exact ⟨o, e _ ho, r⟩
theorem IAt.some {k : Bool} {h : Heap} {it l : Addr} {i : Nat} (x : IAt k h it l i) : ∃ o, h.get? it = some o ∧ ∀ v, o.data ≠ .cell v := by
  cases k with
  | true => obtain ⟨o, ho, _, d⟩ := x; exact ⟨o, ho, fun v q => by rw [d] at q; cases q⟩
  | false => obtain ⟨o, ho, _, d⟩ := x; exact ⟨o, ho, fun v q => by rw [d] at q; cases q⟩
/-! the turn -/
def SqK (k : Bool) (K : Frag) (H : Hp) (a : Addr) (xs : List V) : Prop := match k with | true => SqT K H a xs | false => SqL K H a xs
theorem SqK.at {k : Bool} {X : Cx} {pins : List (Addr × Obj)} {σ : L2.St} {H : Hp} {s : Shared} {a : Addr} {xs : List V} (I : Inv X pins σ H s) (q : SqK k X.K H a xs) : ∃ its, Vals xs its ∧ SAt k s.heap a its.toArray ∧ a < s.heap.objs.size := by
  cases k with
  | true =>
    obtain ⟨its, r, p, _⟩ := I.tuple q
    obtain ⟨o, ho, _⟩ := id p
    exact ⟨its, r, p, Heap.lt_size ho⟩
  | false =>
    obtain ⟨its, r, p, _⟩ := I.list q
    exact ⟨its, r, p.isList, p.lt⟩
theorem SqK.inj {k : Bool} {X : Cx} {pins : List (Addr × Obj)} {σ : L2.St} {H : Hp} {s : Shared} {a : Addr} {xs ys : List V} (I : Inv X pins σ H s) (q : SqK k X.K H a xs) (q' : SqK k X.K H a ys) : xs = ys := by
  cases k with
  | true => exact I.tuple_inj q q'
  | false => exact I.list_inj q q'
/-! ### zip in the mirror -/
end Py
/-! Who owns what, statement by statement. -/
namespace Py
open PySem L2
/-- the names that own what they hold -/
def ownS : List Nat → Nat → Bool
  | [], _ => false
  | j :: l, i => i == j || ownS l i
theorem owS_mem : ∀ {l : List Nat} {i : Nat}, ownS l i = true → i ∈ l
  | j :: l, i, h => by
    unfold ownS at h
    rw [Bool.or_eq_true] at h
    rcases h with h | h
    · exact List.mem_cons.mpr (.inl (by simpa using h))
    · exact List.mem_cons_of_mem _ (owS_mem h)
theorem owS_le {l l' : List Nat} (h : (l'.all fun i => ownS l i) = true) : ∀ i, ownS l' i = true → ownS l i = true := fun i hi => List.all_eq_true.mp h i (owS_mem hi)
theorem owS_add {l l' : List Nat} {i : Nat} (h : (l'.all fun j => j == i || ownS l j) = true ∧ ownS l' i = true ∧ (l.all fun j => ownS l' j) = true) : ∀ j, ownS l' j = (j == i || ownS l j) := fun j => by
  obtain ⟨h1, h2, h3⟩ := h
  cases e : ownS l' j with
  | true => exact (List.all_eq_true.mp h1 j (owS_mem e)).symm
  | false =>
    cases e2 : (j == i || ownS l j) with
    | false => rfl
    | true =>
      rw [Bool.or_eq_true] at e2
      rcases e2 with e2 | e2
      · rw [show j = i by simpa using e2, h2] at e
        cases e
      · rw [List.all_eq_true.mp h3 j (owS_mem e2)] at e
        cases e
abbrev owS (l : List Nat) : Ow := ⟨ownS l, none⟩
/-- the new owners know no more of an error -/
def XLe (o1 o : Ow) : Prop := o1.x = none ∨ (o1.x = o.x ∧ ∀ q, o1.x = some q → o q.i = true → o1 q.i = true)
theorem XLe.refl {o : Ow} : XLe o o := .inr ⟨rfl, fun _ _ z => z⟩
theorem XFact.cut {K : Frag} {A : AS} {H : Hp} {σ : L2.St} {e : Env} {o o1 : Ow} (h : XFact K A H σ e o) (l : XLe o1 o) : XFact K A H σ e o1 := fun q hq => by
  rcases l with l | ⟨l1, l2⟩
  · rw [l] at hq
    cases hq
  · obtain ⟨h1, h2, h3, h4⟩ := h q (l1 ▸ hq)
    exact ⟨l2 q hq h1, h2, h3, h4⟩
section
variable {fr : Rm} {K : Frag} {A : AS} {H0 : Base} {ow o1 oN oB : Ow} {O : OW} {σ : L2.St} {H H' : Hp} {e : Env}
def cutO (ow o1 : Ow) (O : OW) : OW := fun i => if ow i = true ∧ o1 i = false then none else O i
theorem cutO_some {i : Nat} {a : Addr} (h : cutO ow o1 O i = some a) : O i = some a := by
  unfold cutO at h
  split at h
  · cases h
  · exact h
theorem cut_less : ∀ a, AO A (cutO ow o1 O) a → AO A O a := fun a h => h.elim .inl fun ⟨i, q⟩ => .inr ⟨i, cutO_some q⟩
/-- some names give up what they own -/
theorem ER.part (R : ER K A H0 ow O σ H e) (h : ∀ i, o1 i = true → ow i = true) (h0 : ow 0 = true → o1 0 = true) (hx : XLe o1 ow) : ER K A H0 o1 (cutO ow o1 O) σ H e := by
  have mv : Mv (AO A O) H (AO A (cutO ow o1 O)) H := Mv.less cut_less
  have stay : ∀ i, o1 i = true → cutO ow o1 O i = O i := fun i hi => by
    unfold cutO
    rw [if_neg]
    rintro ⟨_, z⟩
    rw [hi] at z
    cases z
  refine ⟨R.len, R.a0, R.same, fun i d h1 h2 => ?_, fun i d h1 h2 => ?_, fun i a q => R.fresh i a (cutO_some q), fun i j a q q' => R.inj i j a (cutO_some q) (cutO_some q'), fun a q => ?_, (R.exq.heap mv fun _ _ e => e).cut hx⟩
  · cases hi : ow i with
    | false =>
      obtain ⟨v, q, r⟩ := R.vals i d h1 hi
      exact ⟨v, q, Rep.move mv _ _ r⟩
    | true =>
      obtain ⟨a, q, q2, r⟩ := R.owns i d h1 hi
      refine ⟨.ref a, q2, ?_⟩
      have na : ¬ AO A (cutO ow o1 O) a := by
        rintro (z | ⟨j, z⟩)
        · exact (R.fresh i a q).2.2 z
        · have e1 := R.inj i j a q (cutO_some z)
          subst e1
          unfold cutO at z
          rw [if_pos ⟨hi, h2⟩] at z
          cases z
      exact r.rep mv na
  · obtain ⟨a, q, q2, r⟩ := R.owns i d h1 (h i h2)
    exact ⟨a, (stay i h2).trans q, q2, r.move mv rfl⟩
  · have q0 := R.pin a q
    unfold cutO
    rw [if_neg]
    · exact q0
    · rintro ⟨z1, z2⟩
      rw [h0 z1] at z2
      cases z2
/-- a name is to own what comes next -/
theorem ER.opens (R : ER K A H0 ow O σ H e) {i : Nat} (hi : ow i = false) (hN : ∀ j, oN j = (j == i || ow j)) (hx : XLe oN ow) : ER K A H0 oN O σ H (e.set i none) := by
  have other : ∀ j d, (e.set i none)[j]? = some (some d) → i ≠ j ∧ e[j]? = some (some d) := fun j d h => by
    by_cases hj : i = j
    · subst hj
      have hl : i < e.length := by
        have := (List.getElem?_eq_some_iff.mp h).1
        simpa using this
      rw [List.getElem?_set_self hl] at h
      cases h
    · rw [List.getElem?_set_ne hj] at h
      exact ⟨hj, h⟩
  refine ⟨by simp [R.len], R.a0, R.same, fun j d h1 h2 => ?_, fun j d h1 h2 => ?_, R.fresh, R.inj, R.pin, (R.exq.move Mv.refl (fun _ _ e => e) fun j hj n => ?_).cut hx⟩
  rotate_right
  · have hne : i ≠ j := fun z => by
      rw [z, hj] at hi
      cases hi
    rw [List.getElem?_set_ne hne]
    exact ⟨rfl, n⟩
  · obtain ⟨hj, h3⟩ := other j d h1
    rw [hN, show (j == i) = false by simpa using fun z => hj z.symm, Bool.false_or] at h2
    exact R.vals j d h3 h2
  · obtain ⟨hj, h3⟩ := other j d h1
    rw [hN, show (j == i) = false by simpa using fun z => hj z.symm, Bool.false_or] at h2
    exact R.owns j d h3 h2
theorem EndOk3.le {o1 oB1 : Ow} {D : Ends} (hN : ∀ i, oN i = true → o1 i = true) (hN0 : o1 0 = true → oN 0 = true) (hB : ∀ i, oB i = true → oB1 i = true) (hB0 : oB1 0 = true → oB 0 = true) (hNx : XLe oN o1) (hBx : XLe oB oB1) : ∀ {f : Fl}, EndOk3 fr K A H0 oN oB O H D f → EndOk3 fr K A H0 o1 oB1 O H D f
  | .next _, h => fun O' σ' H' R n => h _ σ' H' (R.part hN hN0 hNx) (n.trans (Mv.less cut_less))
  | .ret _, h => h
  | .brk _, h => fun O' σ' H' R n => h _ σ' H' (R.part hB hB0 hBx) (n.trans (Mv.less cut_less))
  | .cnt _, h => fun O' σ' H' R n => h _ σ' H' (R.part hB hB0 hBx) (n.trans (Mv.less cut_less))
end
section
variable {fr : Rm} {X : Cx} {W : WX} {ow o1 oN oB : Ow} {a b c e : Expr} {es : List Expr} {m ma mb mc : EM} {st : Stmt} {rest body orelse : List Stmt} {u v : SM} {t : TM} {pos : Pos} {j : Nat}
/-- a statement that changes no owner -/
theorem s_up (h : PS X st (tS fr X.K W ow u)) (hB : ∀ i, oB i = true → ow i = true) (hB0 : ow 0 = true → oB 0 = true) (hx : XLe oB ow := by first | exact Or.inl rfl | exact XLe.refl | exact Or.inr ⟨rfl, by intro q z; cases z; intro _; rfl⟩) : PS X st (tS3 fr X.K W ow ow oB u) :=
  PS.of h fun D σ H ⟨A, H0, O, en, R, q⟩ => ⟨A, H0, O, en, R, q.good fun f q1 => q1.le (fun _ z => z) (fun z => z) hB hB0 XLe.refl hx⟩
theorem c_nil : PSs X [] (tS3 fr X.K W ow ow oB skip) := PSs.of pss_nil fun D σ H ⟨A, H0, O, en, R, q⟩ => q O σ H R Mv.refl
theorem c_one (h : PS X st (tS3 fr X.K W ow oN oB u)) : PSs X [st] (tS3 fr X.K W ow oN oB u) := pss_one h
theorem c_cons (h : PS X st (tS3 fr X.K W ow o1 oB u)) (k : PSs X rest (tS3 fr X.K W o1 oN oB v)) : PSs X (st :: rest) (tS3 fr X.K W ow oN oB (seq u v)) :=
  PSs.of (pss_cons h k) fun D σ H ⟨A, H0, O, en, R, q⟩ => ⟨A, H0, O, en, R, (Out.bind q).good fun f q1 => by
    cases f with
    | next e' => exact fun O' σ' H' R' mv => ⟨A, H0, O', e', R', q1.good fun f q2 => q2.to mv⟩
    | ret d => exact q1
    | brk e' => exact q1
    | cnt e' => exact q1⟩
/-- names give up what they own -/
theorem c_cut (h : PSs X rest (tS3 fr X.K W o1 oN oB v)) (h1 : ∀ i, o1 i = true → ow i = true) (h0 : ow 0 = true → o1 0 = true) (hx : XLe o1 ow := by first | exact Or.inl rfl | exact XLe.refl | exact Or.inr ⟨rfl, by intro q z; cases z; intro _; rfl⟩) : PSs X rest (tS3 fr X.K W ow oN oB v) :=
  PSs.of h fun D σ H ⟨A, H0, O, en, R, q⟩ => ⟨A, H0, _, en, R.part h1 h0 hx, q.good fun f q1 => q1.to (Mv.less cut_less)⟩
theorem c_end (h : PS X st (tS3 fr X.K W ow o1 oB u)) (h1 : ∀ i, oN i = true → o1 i = true) (h0 : o1 0 = true → oN 0 = true) (hx : XLe oN o1 := by first | exact Or.inl rfl | exact XLe.refl | exact Or.inr ⟨rfl, by intro q z; cases z; intro _; rfl⟩) : PS X st (tS3 fr X.K W ow oN oB u) :=
  PS.of h fun D σ H ⟨A, H0, O, en, R, q⟩ => ⟨A, H0, O, en, R, q.good fun f q1 => q1.le h1 h0 (fun _ z => z) (fun z => z) hx XLe.refl⟩
/-- a name gets a new object of its own -/
theorem c_own {i : Nat} (h : PS X st (tAsg (tF X.K W ow m) (gName i))) (hi : ow i = false) (hN : ∀ j, oN j = (j == i || ow j)) (h0 : 0 < i := by decide) (hx : XLe oN ow := by first | exact Or.inl rfl | exact XLe.refl | exact Or.inr ⟨rfl, by intro q z; cases z; intro _; rfl⟩) : PS X st (tS3 fr X.K W ow oN oB (asg (gnm i) m)) :=
  PS.of h fun D σ H ⟨A, H0, O, en, R, q⟩ => ⟨A, H0, O, en, R, ((Out.bind q).se R).good fun d q1 a H1 n s1 r1 => by
    have hNi : oN i = true := by rw [hN]; simp
    have hxi : ∀ q, oN.x = some q → q.i ≠ i := fun q hq z => by
      rcases hx with hx | ⟨hx, _⟩
      · rw [hx] at hq
        cases hq
      · have z2 := (R.exq q (hx ▸ hq)).own
        rw [z, hi] at z2
        cases z2
    obtain ⟨R2, mv⟩ := (R.opens hi hN hx).take s1 hxi hNi h0 n r1
    rw [List.set_set] at R2
    exact q1 _ _ H1 R2 mv⟩
theorem c_if (hc : PT X a (tT X.K W ow t)) (hb : PSs X body (tS3 fr X.K W ow oN oB u)) (ho : PSs X orelse (tS3 fr X.K W ow oN oB v)) : PS X (.If a body orelse pos) (tS3 fr X.K W ow oN oB (ite t u v)) :=
  PS.of (ps_if hc hb ho) fun D σ H ⟨A, H0, O, en, R, q⟩ => ⟨A, H0, O, en, R, ((Out.bind q).se R).good fun k q1 H1 s1 => by
    cases k with
    | true =>
      rw [if_pos rfl] at q1 ⊢
      exact ⟨A, H0, O, en, R.to s1, q1.good fun f q2 => q2.to (Mv.same s1)⟩
    | false =>
      rw [if_neg (by decide)] at q1 ⊢
      exact ⟨A, H0, O, en, R.to s1, q1.good fun f q2 => q2.to (Mv.same s1)⟩⟩
end
end Py
/-! Defs that give back a new list: their caller owns it. -/
namespace Py
open PySem L2
def spF (K : Frag) (p : Nat) (m : List D → Res D) : Sp := fun vs H Q E => ∃ A ds, RepL K A H ds vs ∧ ds.length = p ∧ (∀ a, A a → H a ≠ none) ∧
  Out (m ds) (fun d => (d = .non → ∀ H', Same H H' → Q .non H') ∧ ∀ a H', H a = none → Same H H' → OwnAt K (fun b => A b ∨ b = a) H' a d → Q (.ref a) H') (fun c fs => ∀ da H' fvs, Same H H' → H' da = some (.xd fvs) → RepF K A H' fs fvs → E (.ref (ca K c)) (some da) H')
theorem spF_le {K : Frag} {p : Nat} {m : List D → Res D} {vs : List V} {H : Hp} {Q : VK} {E : XK} (h : spM K p m vs H Q E) : spF K p m vs H Q E := by
  obtain ⟨A, ds, r, hl, ha, q⟩ := h
  refine ⟨A, ds, r, hl, ha, q.good fun d k => ⟨fun e H' s => ?_, fun a H' n s o => k (.ref a) H' s ?_⟩⟩
  · subst e
    exact k .non H' s rfl
  · have na : ¬ A a := fun z => ha a z n
    have mv : Mv (fun b => A b ∨ b = a) H' A H' := Mv.less fun b x => .inl x
    exact o.rep mv na
/-- the name x calls a def that gives back a new list -/
def CallF (P : Program) (w : World) (K : Frag) (mg : Str → Option Value) (base : Heap) (k : Nat) (x : Str) (d : He.DefD) (ps : List Str) (n : Nat) (fm : List D → Res D) : Prop := ∃ f fd, mg x = some (.ref f) ∧ PySem.W.keepIn K (.ref f) = true ∧ Binds K fd ps [] ∧ FnOk P w K mg base (L2N.CX P w) k f fd ps (spF K n fm) ∧ Ar n fm ∧ FunD K d.name d.qual d.params d.body d.scope [] [] f fd
theorem CallF.le {P : Program} {w : World} {K : Frag} {mg : Str → Option Value} {base : Heap} {k : Nat} {x : Str} {d : He.DefD} {ps : List Str} {n : Nat} {fm : List D → Res D} (C : CallF P w K mg base k x d ps n fm) : CallOk P w K mg base k x d ps n fm := by
  obtain ⟨f, fd, h1, h2, h3, h4, h5⟩ := C
  exact ⟨f, fd, h1, h2, h3, h4.imp fun _ _ _ _ z => spF_le z, h5⟩
end Py
/-! More expressions. -/
/-! The __init__ of an own exception: super().__init__(..), then its fields. -/
namespace Py
open PySem L2 PyProof.Rows
/-- an exception's __init__ that keeps what it is given, under these names -/
def spX (C : Addr) (n : Nat) (fs : List Str) : Sp := fun vs H Q E => ∃ a H1 ws, vs = .ref a :: ws ∧ H = upd H1 a (exo a C none) ∧ H1 a = none ∧ ws.length = n ∧
  ∀ d H2, H2 a = some (exo a C (some d)) → H2 d = some (exd d (fs.zip ws).reverse) → H1 d = none → d ≠ a → (∀ b, b ≠ a → b ≠ d → H2 b = H1 b) → Q .non H2
/-- what the written part tells of the class C whose __init__ is f -/
structure XIn (P : Program) (K : Frag) (C f cc cda : Addr) (nm qual : Str) (params : Arguments) (body : List Stmt) (scope : Scope) (fd : FuncData) : Prop where
  fn : ∃ (oc : Value) (od : Option Addr) (dV kV doc pm : Value) (an : Option Addr) (ct : Value) (osl : Array (Option Value)),
    fd = PySem.W.ksFn nm qual params body scope dV kV doc pm an (.ref cda) ct cc ∧ K.lookup f = some ⟨oc, od, .func fd, osl⟩
  cd : PySem.W.codeIn K (.ref cda) qual = true
  fl : ∃ (ccl : Value) (cdd : Option Addr) (vs : Array Value) (ccs : Array (Option Value)) (file : Str) (tf : Tok), K.lookup cda = some ⟨ccl, cdd, .fields vs, ccs⟩ ∧ vs[2]? = some (.str file tf) ∧ ((P.main.file : Str) == file) = true
  cell : ∃ (cl : Value) (cld : Option Addr) (csl : Array (Option Value)), K.lookup cc = some ⟨cl, cld, .cell (some (.ref C)), csl⟩
  T : OexC K C
  sup : PySem.W.ks_superIn K C C "__init__" = some (some (.builtin "ValueError.__init__"))
  ve : PySem.W.subIn K (.ref C) (.type "ValueError") = some true
  me : PySem.W.mroIn K C (.ref C) = some true
  thi : PySem.W.nsIn K cStatics "thirdparty.any" = some none
theorem oexC_cd {K : Frag} {C : Addr} (T : OexC K C) : ∃ (cd : ClassData) (dd : Option Addr) (sl : Array (Option Value)), PySem.W.clsIn K C = some cd ∧ K.lookup C = some ⟨.type "type", dd, .cls cd, sl⟩ := by
  obtain ⟨nm, q, N, bs, bm, sn, sub, ab, col, dd, k0, k1, k2, k3, k5, hC, hbm⟩ := T.cls
  exact ⟨_, dd, _, by unfold PySem.W.clsIn; rw [hC] <;> rfl, hC⟩
theorem hv_super : bootBuiltins "super" = some (.type "super") := by decide +kernel
section
variable {P : Program} {w : World} {K : Frag} {mg : Str → Option Value} {base : Heap} {C f cc cda : Addr} {nm qual self txt : Str} {params : Arguments} {body rest : List Stmt} {scope : Scope} {fd : FuncData} {N ps fs : List Str} {k : Nat} {ar : Arg}
theorem callWith_kxs {M : Model} {A : Around} {E : Value → Shared → Prop} {s : Shared} {i : String} {u x : Addr} {pos : Pos} {env : PySem.Env} {e : Expr} {es : List Expr} {Q : Value → Shared → Prop}
    (h : wpAny M A (spliced (backTo pos (starEach (e :: es) env))) (fun vs s₁ => PySem.W.KxsAt i u x s₁.heap ∧ wpAny M A (PySem.call (.ref u) vs) Q E s₁) E s)
    (he : starEach (e :: es) env = (false, eval e env) :: starEach es env := by rfl) (hplain : (backTo pos (starEach es env)).any (·.1) = false := by rfl) :
    wpAny M A (callWith pos (.ref u) [] (backTo pos (starEach (e :: es) env)) []) Q E s := by
  rw [he] at h ⊢
  refine PySem.W.kxs_callWith (i := i) (x := x) (by show (false || (backTo pos (starEach es env)).any (·.1)) = false; rw [hplain]; rfl) ?_
  exact PySem.Calls.evalArgs_plain h
/-- super().__init__(..) called: the object keeps its shape -/
theorem kxs_done {X : Cx} {pins : List (Addr × Obj)} {σ : L2.St} {H : Hp} {s : Shared} {A : Around} {E : Value → Shared → Prop} {u a C : Addr} {us : List Value} {Q : Value → Shared → Prop} (T : OexC X.K C) (I : Inv X pins σ H s) (e : H a = some (exo a C none)) (hu : s.heap.get? u = some (PySem.W.kxs_mw "ValueError.__init__" a))
    (hl : us.length ≤ sizeLine) (h : ∀ s', Inv X pins σ H s' → Q .none s') : wpAny (model X.prog X.w) A (PySem.call (.ref u) us) Q E s := by
  obtain ⟨nm, q, N, bs, bm, sn, sub, ab, col, dd, k0, k1, k2, k3, k5, hC, hbm⟩ := T.cls
  obtain ⟨t1, ho⟩ := exo_at I.hok e
  have hCh := I.kIn _ _ hC
  obtain ⟨hp, g, d, t, os⟩ := s
  refine wpAny_call (codeAny_of_tree ?_)
  show wpAny _ A.in1 (callAny (.ref u) ⟨us, []⟩) _ _ _
  simp only [callAny]
  refine wpAny_bind (wpAny_load hu ?_)
  simp only [PySem.W.kxs_mw, show (Value.type "method-wrapper" == Value.type "method" || Value.type "method-wrapper" == Value.type "builtin_function_or_method" || Value.type "method-wrapper" == Value.type "method-wrapper") = true by decide, if_true]
  refine PySem.W.KFB.if_so (by decide) ?_
  refine wpAny_bind (PySem.W.check_bound_init PySem.F.excBase_ValueError.toExcCallFacts hCh ho rfl ?_)
  refine wpAny_bind (wpAny_pure (wpAny_pure ?_))
  refine ⟨plainId_quiet PySem.F.excBase_ValueError.init.plain _, codeAny_builtin PySem.F.excBase_ValueError.initEntry ?_⟩
  refine PySem.W.exc_init_tree (cls := .ref C) (t0 := t1) (dv := none) (c2 := .none) (c3 := .none) (b4 := .bool false) ho hl fun h' kp hx ht => ?_
  have J := I.write (t' := t) (x := a) (e := a) (o := exo a C none) (by rw [e]; exact True.intro) (.inl rfl) kp ⟨_, hx⟩ (exo_ok hx)
  have eu : upd H a (exo a C none) = H := by
    funext b
    by_cases hb : b = a
    · rw [hb, upd_same, e]
    · rw [upd_ne hb]
  rw [eu] at J
  exact h _ J
theorem xinit_ok {n : Nat} (XI : XIn P K C f cc cda nm qual params body scope fd) (hps : ps = self :: fs) (hlen : fs.length = n) (S : NdefX.NScope N ps ["__class__"] scope) (har : (params.posonlyargs ++ params.args).head? = some ar) (hself : ar.arg = self)
    (hmg : mg "super" = none) (hsk : scope.names.lookup ("super" : Str) = some .globalImplicit) (htop : (P.main.scope.names.lookup ("super" : Str)).isSome = false)
    {p0 p1 p2 p3 p4 p5 : Pos} {j : Nat}
    (hbody : body = .Expr (.Call (.Attribute (.Call (.Name "super" p0) [] [] p1) "__init__" p2) [.Constant (.str txt) j p3] [] p4) p5 :: rest)
    {t : TS} (hb : ∀ (A : Around) (outer : List PySem.Env) (s : Shared) (H : Hp) (E : XK), PSs (NdefX.ncx (L2N.CX P w) P w K mg base N ⟨nm, qual, params, body, scope, [("__class__", cc)], cda⟩ f A outer s H E) rest t)
    (ht : ∀ (a : Addr) (ws : List V) (H1 : Hp) (D : Ends) (σ : L2.St), σ[0]? = some (some (.ref a)) → (∀ i v, ws[i]? = some v → σ[i + 1]? = some (some v)) → ws.length = n → H1 a = none →
      (∀ d H2 σ', H2 a = some (exo a C (some d)) → H2 d = some (exd d (fs.zip ws).reverse) → H1 d = none → d ≠ a → (∀ b, b ≠ a → b ≠ d → H2 b = H1 b) → D.nx σ' H2) → t D σ (upd H1 a (exo a C none)))
    (hin : ∀ (L : Addr), interactive (PySem.W.ksEnv qual scope L f (.ref cda) cc) = false := by intro _; rfl)
    (hsw : ∀ (L : Addr), swapsWith (.Call (.Attribute (.Call (.Name "super" p0) [] [] p1) "__init__" p2) [.Constant (.str txt) j p3] [] p4) none p5.line (PySem.W.ksEnv qual scope L f (.ref cda) cc) = pure false := by intro _; rfl)
    {pl : Sem Bool} (hea : ∀ (L : Addr), eval (.Call (.Attribute (.Call (.Name "super" p0) [] [] p1) "__init__" p2) [.Constant (.str txt) j p3] [] p4) (PySem.W.ksEnv qual scope L f (.ref cda) cc) = (do
      let ov ← attributeBase (.Call (.Name "super" p0) [] [] p1) "__init__" (PySem.W.ksEnv qual scope L f (.ref cda) cc) (eval (.Call (.Name "super" p0) [] [] p1) (PySem.W.ksEnv qual scope L f (.ref cda) cc))
      standAt p2.atName
      let (g, first) ← holding [ov] (getMethod ov "__init__" pl)
      callWith p4 g first (backTo p4 (starEach [.Constant (.str txt) j p3] (PySem.W.ksEnv qual scope L f (.ref cda) cc))) []) := by intro _; rfl)
    (hst : ∀ (L : Addr), starEach [.Constant (.str txt) j p3] (PySem.W.ksEnv qual scope L f (.ref cda) cc) = [(false, eval (.Constant (.str txt) j p3) (PySem.W.ksEnv qual scope L f (.ref cda) cc))] := by intro _; rfl) :
    FnOk P w K mg base (L2N.CX P w) (k + 1) f fd ps (spX C n fs) := by
  subst hps
  obtain ⟨oc, od, dV, kV, doc, pm, an, ct, osl, rfl, lk⟩ := XI.fn
  obtain ⟨ccl, cdd, cvs, ccs, file, tf, hcode, hvs, hfile⟩ := XI.fl
  obtain ⟨cl, cld, csl, hcell⟩ := XI.cell
  obtain ⟨cdC, ddC, slC, hcls, hClk⟩ := oexC_cd XI.T
  have len : ∀ vs H Q E, spX C n fs vs H Q E → vs.length = (self :: fs).length := fun vs H Q E ⟨a, H1, ws, e, _, _, l, _⟩ => by
    rw [e, List.length_cons, List.length_cons, l, hlen]
  refine ⟨len, fun A outer s H args us vs Q E hr e0 hbi r hsp => ?_⟩
  have hl := len _ _ _ _ hsp
  obtain ⟨a, H1, ws, rfl, rfl, ha, hwl, q⟩ := hsp
  have KX : K.In s.heap := e0.mod.kin.keeps fun b o e => (e0.bs b o e).1
  have lim : s.heap.NoLimit := e0.mod.nolimit.keeps fun b o e => (e0.bs b o e).1
  refine ks_codeAny_call_defAt (binds := (self :: fs).zip us) (body := body) hr.depth (KX _ _ lk) rfl lim (PySem.W.codeRec_of KX XI.cd) rfl hbi S.nocell (fun ⟨m, _⟩ hy => S.par m (List.of_mem_zip hy).1) (fun h₁ hns kp => ?_) S.co S.gen S.kind
  have hbase : K.In base := e0.mod.kin
  have hcB : base.get? cc = some ⟨cl, cld, .cell (some (.ref C)), csl⟩ := hbase _ _ hcell
  have CA : NdefX.CellsAt [("__class__", cc)] ["__class__"] [none] s.heap (upd H1 a (exo a C none)) := by
    refine ⟨rfl, fun y c e => ?_, fun x y c e1 e2 => ?_, fun i y e => ?_⟩
    · have hc : c = cc := by
        have := PySem.mem_of_lookup e
        simpa using (Prod.mk.inj (List.mem_singleton.mp this)).2
      subst hc
      exact ⟨(e0.bs _ _ hcB).2, _, _, (e0.bs _ _ hcB).1, rfl⟩
    · have h1 := (Prod.mk.inj (List.mem_singleton.mp (PySem.mem_of_lookup e1))).1
      have h2 := (Prod.mk.inj (List.mem_singleton.mp (PySem.mem_of_lookup e2))).1
      exact h1.trans h2.symm
    · cases i with
      | zero =>
        simp only [List.getElem?_cons_zero, Option.some.injEq] at e
        subst e
        exact ⟨cc, rfl, fun v z => by simp at z⟩
      | succ i => simp at e
  have I := NdefX.inv_startN (CX := L2N.CX P w) (f := f) (E := E) (F := ⟨nm, qual, params, body, scope, [("__class__", cc)], cda⟩) (tk := s.toks + ((self :: fs).zip us).length) S hr.hd e0 hl r CA hns kp
  obtain ⟨u0, us', rfl, ru0⟩ : ∃ u0 us', us = u0 :: us' ∧ L2.RelV (.ref a) u0 := by
    cases r with
    | cons r1 r2 => exact ⟨_, _, rfl, r1⟩
  obtain rfl : u0 = Value.ref a := ru0
  have hv : ((self :: fs).zip (Value.ref a :: us')).reverse.lookup self = some (.ref a) := by
    have nd : (self :: fs).Nodup := by
      have q := S.nd.sublist (List.take_sublist ((self :: fs).length + (["__class__"] : List Str).length) N)
      rw [S.pre] at q
      exact (List.nodup_append.mp q).1
    exact NdefX.zip_look (i := 0) nd rfl rfl
  have ea : (upd H1 a (exo a C none)) a = some (exo a C none) := upd_same
  subst hbody
  refine ks_wpAt_execs_cons (ks_wpAt_Expr_any (ks_wpAt_MethodCall (pl := pl) ?_ (hea _)) (hin _) (hsw _))
  refine ks_wpAt_super_base (f := f) (cc := cda) (ar := ar) hsk (S.frk _ List.mem_cons_self) rfl rfl (I.kIn _ _ lk) rfl har rfl (I.kIn _ _ hcode) rfl hvs hfile htop ?_
  obtain ⟨mb, hmb, hmb2⟩ := I.mod.blt
  refine PySem.W.ks_loadName_global S.kind hsk (PySem.Calls.loadGlobal_builtin (I.mod.glob.keeps I.bk) hmg (hmb.keeps I.bk) ((hmb2 "super" (by decide)).trans hv_super) ⟨rfl, ?_⟩)
  refine wpAny_loadName_free S.kind (S.frk _ List.mem_cons_self) rfl ⟨_, I.kIn _ _ hcell, rfl⟩ ?_
  refine wpAny_loadName_local S.kind (by rw [hself]; exact S.par _ List.mem_cons_self) hns (by rw [hself]; exact hv) ?_
  refine ks_wpAny_isType_cls (I.kIn _ _ hClk) rfl ⟨rfl, ?_⟩
  obtain ⟨t1, hat⟩ := exo_at I.hok ea
  refine ks_wpAny_call_super (I.kIn _ _ hClk) rfl hat rfl (fun c z => nomatch z) (PySem.W.looks_mroIn I.kIn XI.me) fun h2 hso kp2 => ?_
  have I2 := I.kept (t' := s.toks + ((self :: fs).zip (Value.ref a :: us')).length) kp2
  have hmr : PySem.W.Looks (model P w) h2 (mroOf (.ref C)) cdC.mro := fun A Q E s k q => wpAny_bind ((PySem.W.looks_clsIn I2.kIn hcls) A _ E s k (wpAny_pure q))
  have hsup := XI.sup
  unfold PySem.W.ks_superIn at hsup
  rw [hcls] at hsup
  have hat2 := kp2 _ _ hat
  have hIA : PySem.W.InstAt h2 a { cls := .ref C, dict := none, data := .fields #[.ref t1, .none, .none, .none, .bool false, .none] } C none := ⟨hat2, rfl, rfl, trivial⟩
  refine PySem.W.kxs_getMethod PySem.W.kxs_ValueError hso (PySem.W.looks_opaque I2.kIn XI.thi) hmr rfl I2.kIn hsup (hIA.type.andThen (PySem.W.looks_subIn I2.kIn XI.ve)) (PySem.W.ks_ne I2.kIn hIA hcls) (by decide) ?_
  have kp3 : ∀ b o, h2.get? b = some o → (h2.push (PySem.W.kxs_mw "ValueError.__init__" a)).get? b = some o := fun b o e => Heap.get?_push_of_some _ e
  have hu : (h2.push (PySem.W.kxs_mw "ValueError.__init__" a)).get? h2.objs.size = some (PySem.W.kxs_mw "ValueError.__init__" a) := Heap.get?_push_size _ rfl
  have I3 := I2.kept (t' := s.toks + ((self :: fs).zip (Value.ref a :: us')).length + 1) kp3
  have I4 := I3.pins_of (pins' := [(h2.objs.size, PySem.W.kxs_mw "ValueError.__init__" a)]) fun p hp => by
    obtain rfl := List.mem_singleton.mp hp
    exact ⟨hu, I2.hok.fresh (Nat.le_refl _), Nat.ne_of_gt I2.lt, I2.nofs (Nat.le_refl _), fun v z => nomatch z⟩
  refine callWith_kxs (i := "ValueError.__init__") (u := h2.objs.size) (x := a) ?_ (hst _) rfl
  have ha1 := (pa_cons (pe_str (x := txt) (j := j) (pos := p3)) pa_nil (hst s.heap.objs.size)).run p4 _ _ _ _ (fun vs H2 => vs.length ≤ sizeLine ∧ H2 = upd H1 a (exo a C none)) I4 ⟨by rw [sizeLine_eq]; simp, rfl⟩
  refine wpAny_mono ha1 (fun us2 s2 ⟨vs, H2, I5, r5, hl5, e5⟩ => ?_) fun e s' z => z
  subst e5
  have hu5 := (I5.pin (h2.objs.size, PySem.W.kxs_mw "ValueError.__init__" a) (List.mem_append_right _ List.mem_cons_self)).1
  refine ⟨hu5, ?_⟩
  refine kxs_done XI.T I5 ea hu5 (by rw [← r5.length]; exact hl5) fun s' I6 => ?_
  refine PySem.wpAt_of_wpAny ?_
  have I' := I6.unpinned (pins := []) 
  refine wpAny_mono ((hb A outer s (upd H1 a (exo a C none)) E).run [] _ _ _ { nx := fun _ H' => Q .non H', rt := fun _ _ => False } I' (ht a ws H1 _ _ rfl (fun i v hi => ?_) hwl ha fun d H2 σ' k1 k2 k3 k4 k5 => q d H2 k1 k2 k3 k4 k5)) (fun fl s' hs => ?_) fun e s' hs => hs
  · unfold NdefX.startF
    have hi2 := (List.getElem?_eq_some_iff.mp hi).1
    rw [List.getElem?_append_left (by simpa using hi2)]
    simp [hi]
  · cases fl with
    | next =>
      obtain ⟨σ', H', J, q⟩ := hs
      exact ⟨.non, H', J.os, J.bare, J.base, J.hok, rfl, q⟩
    | ret u =>
      obtain ⟨_, _, _, _, _, q⟩ := hs
      exact q.elim
    | brk =>
      obtain ⟨_, _, _, q⟩ := hs
      exact False.elim q
    | cont =>
      obtain ⟨_, _, _, q⟩ := hs
      exact False.elim q
end
section
variable {X : Cx} {CX : CXT} {x : Str} {C fI : Addr} {k : Nat} {fd : FuncData} {ps : List Str} {sp : Sp} {e : Expr} {es : List Expr} {ta : TA} {p pos : Pos}
/-- C(e, ..) makes an error that came out of nothing -/
theorem pmkN (T : OexC X.K C) (iC : PySem.W.findIn X.K (.ref C) "__init__" = some (some (.ref fI))) (tI : PySem.W.typeIn X.K (.ref fI) = some (.type "function"))
    (F1 : FnOk X.prog X.w X.K X.mg X.base CX k fI fd ps sp) (hr : Room (k + 1) X.A) (hb : Binds X.K fd ps []) (hx : Passes CX X (fun _ _ _ => False)) (hg : Gl X x) (hm : X.mg x = some (.ref C)) (ha : PA X (e :: es) ta)
    (hdb : (x == ("__debug__" : Str)) = false) (he : starEach (e :: es) X.env = (false, eval e X.env) :: starEach es X.env) (hpl : (backTo pos (starEach es X.env)).any (·.1) = false) :
    L2N.PMk X (.Call (.Name x p) (e :: es) [] pos) (tMkO C sp [] ta) := by
  intro pins s0 σ H Q I h
  have key : ∀ (us : List Value) (s : Shared), (∃ (vs : List V) (H1 : Hp), Inv X pins σ H1 s ∧ Vals vs us ∧ vs.length ≤ 1000 ∧ ∀ a, H1 a = none → sp (.ref a :: (vs ++ [])) (upd H1 a (exo a C none))
      (fun v H2 => v = .non ∧ ∃ (d : Addr) (fs : List (Str × V)), H2 a = some (exo a C (some d)) ∧ H2 d = some (exd d fs) ∧ H1 d = none ∧ Q (.ref C) (some d) (upd (del H2 a) d (.xd fs))) (fun _ _ _ => False)) →
      wpAny (model X.prog X.w) X.A (PySem.call (.ref C) us) (L2N.MkP X pins σ Q) X.xe s := by
    rintro us ⟨hp, g, dr, tk, os⟩ ⟨vs, H1, I1, r1, hz, q1⟩
    obtain ⟨nm, q, N, bs, bm, sn, sub, ab, col, dd, k0, k1, k2, k3, k5, hC, hbm⟩ := T.cls
    have hus : us.length ≤ sizeLine := by
      rw [← Paired.length r1, sizeLine_eq]
      omega
    have hsz : hp.objs.size ≤ hp.objs.size + 1 := Nat.le_add_right _ _
    have hq := q1 _ (I1.hok.fresh hsz)
    rw [List.append_nil] at hq
    have kk : ∀ b o, hp.get? b = some o → ((hp.push (PySem.W.kdv_tup us)).push (PySem.HandSPX.excO C hp.objs.size)).get? b = some o := fun b o z => Heap.get?_push_of_some _ (Heap.get?_push_of_some _ z)
    have new : ObjOk X.prog X.w (upd H1 (hp.objs.size + 1) (exo (hp.objs.size + 1) C none)) ((hp.push (PySem.W.kdv_tup us)).push (PySem.HandSPX.excO C hp.objs.size)) (hp.objs.size + 1) (exo (hp.objs.size + 1) C none) := exo_ok (t1 := hp.objs.size) (by heap_get)
    have I2 : Inv X pins σ _ ⟨_, g, dr, tk, os⟩ := I1.laid (t' := tk) kk hsz new
    have r2 : Vals (V.ref (hp.objs.size + 1) :: vs) (Value.ref (hp.objs.size + 1) :: us) := .cons rfl r1
    have hl2 := r2.length.symm.trans (F1.len _ _ _ _ hq)
    have b2 := hb _ (Value.ref (hp.objs.size + 1) :: us) I2.kIn (by rw [List.append_nil]; exact hl2)
    rw [List.append_nil] at b2
    have run := F1.run (X.A.under (.builtin "type.__call__" ⟨.ref C :: us, []⟩)) X.stack _ _ ⟨_, []⟩ _ _ _ _ (hr.make C us []) (I2.env0.make C us []) b2 r2 hq
    refine wpAny_call (PySem.HandSPX.call_own PySem.F.excBase_ValueError (fun Y => PySem.HandSPX.refsVE_contains Y bm hbm) (I1.kIn _ _ hC) (PySem.W.looks_findIn I1.kIn iC) (fun self => PySem.W.bind_fn I1.kIn self tI) hus (codeAny_mono run ?_))
    intro r s' hq'
    match r, hq' with
    | .error er, z => exact hx pins σ _ _ er s' I2 z
    | .ok (.ret u), z =>
      obtain ⟨v, H2, os2, bare2, un2, hok2, rv, ev, d, fs, ea, ed, hd1, q2⟩ := z
      subst ev
      obtain ⟨h2, g2, d2, t2, os'⟩ := s'
      obtain ⟨t0, G, J, kG, ge, hoe, na⟩ := mk_end0 (d2 := d2) (t2 := t2) I1 hsz kk un2 hok2 os2 bare2 ea ed hd1
      refine ⟨rv, ?_⟩
      exact ⟨_, _, _, ⟨G, g2, d2, t2, os'⟩, _, _, some d, rfl, J, kG, ge, hoe, ⟨rfl, rfl, fun ws hv => by cases hv <;> rfl⟩, rfl, rfl, na, rfl, bare2, raises_own T.exC T.tyC, q2⟩
    | .ok .next, z => exact False.elim z
    | .ok .brk, z => exact False.elim z
    | .ok .cont, z => exact False.elim z
  refine wpAny_Call_Name_kw (ld_glob I hg hm ?_ hdb)
  refine PySem.W.callWith_K (h₀ := X.base) I.ok.mod.kin T.kC (thn (ha.run pos pins s0 σ H _ I h) fun us s1 hh => ?_) he hpl
  obtain ⟨vs, H1, I1, r1, z⟩ := hh
  exact ⟨I1.kIn, key us s1 ⟨vs, H1, I1, r1, z⟩⟩
end
end Py
/-! Errors of own classes: what the head tells of them, raise. -/
namespace Py
open PySem L2
open He (Fa DefD Tab FnW)
/-! ### facts -/
theorem oexB_ok {c : String} {K : Frag} (h : oexB c K = true) : ∃ nm q N bs bm sn sub ab col dd k0 k1 k2 k3 k5, K.lookup (ca K c) = some (excClassObj nm q (ca K c) N bs bm true sn sub ab col dd k0 k1 k2 k3 k5 "ValueError.__new__") ∧ PySem.HandSPX.refsVE bm = true := by
  unfold oexB at h
  split at h
  · rename_i dd cd sl ho
    split at h
    · rename_i C' bm k0 k1 k2 k3 n k5 hm hs
      simp only [Bool.and_eq_true, decide_eq_true_eq, Bool.not_eq_true'] at h
      obtain ⟨h1, h2, h3, h4, h5⟩ := h
      obtain ⟨nm, bs, mro, ns, qn, hd, sn, sub, ab, col, del⟩ := cd
      dsimp only at hm h3 h4
      subst hm h3 h4 h1 h2
      have hsl : sl = #[k0, k1, k2, k3, some (.builtin "ValueError.__new__"), k5] := by
        obtain ⟨l⟩ := sl
        simp only at hs
        rw [hs]
      subst hsl
      exact ⟨nm, qn, ns, bs, bm, sn, sub, ab, col, dd, k0, k1, k2, k3, k5, ho, h5⟩
    · cases h
  · cases h
structure ErrF (P : Program) (K : Frag) (c : String) (nm qual : Str) (params : Arguments) (body : List Stmt) (scope : Scope) (fs : List String) : Prop where
  xin : ∃ cc cda fd, XIn P K (ca K c) (He.ma K (ca K c) "__init__") cc cda nm qual params body scope fd ∧ ∃ kV doc pm an ct, fd = PySem.W.ksFn nm qual params body scope .none kV doc pm an (.ref cda) ct cc
  ini : PySem.W.findIn K (.ref (ca K c)) "__init__" = some (some (.ref (He.ma K (ca K c) "__init__")))
  typ : PySem.W.typeIn K (.ref (He.ma K (ca K c) "__init__")) = some (.type "function")
  no : ∀ f ∈ fs, PySem.W.findIn K (.ref (ca K c)) (Str.ofString f) = some none
theorem err_f {P : Program} {K : Frag} {c : String} {d : DefD} {file : Str} {fs : List String} (hat : d.at_ = (Str.ofString c, some ("__init__" : Str))) (hf : ((P.main.file : Str) == file) = true) (e : fnWx K d.at_ = d.val) (h : errB file c d.qual fs K = true) : ErrF P K c d.name d.qual d.params d.body d.scope fs := by
  unfold errB at h
  simp only [Bool.and_eq_true, decide_eq_true_eq, List.all_eq_true] at h
  obtain ⟨hc, ho, h1, h2, h3, h4, h5, h6, h7, h8, h9, h10, h11⟩ := h
  have hfa : He.fAd K d.at_ = He.ma K (ca K c) "__init__" := by rw [hat] <;> rfl
  unfold cloB at hc
  unfold fnWx at e
  rw [hfa] at e
  cases q : K.lookup (He.ma K (ca K c) "__init__") with
  | none =>
    rw [q] at hc
    cases hc
  | some o =>
    obtain ⟨oc, od, dt, osl⟩ := o
    rw [q] at hc e
    cases dt with
    | func fd =>
      obtain ⟨n1, n2, n3, n4, n5, n6, n7, n8, n9, n10, n11, n12, n13, n14, n15⟩ := fd
      have e2 : (some (n1, n2, n3, n4, n5, n6, [], n15) : FnW) = some (d.name, d.qual, d.params, .stmts d.body, d.scope, mainGlobals, [], builtinsNs) := e
      simp only [Option.some.injEq, Prod.mk.injEq, true_and] at e2
      obtain ⟨g1, g2, g3, g4, g5, g6, g8⟩ := e2
      subst g1 g2 g3 g4 g5 g6 g8
      dsimp only at hc
      split at hc
      · rename_i cda y cc
        simp only [Bool.and_eq_true, decide_eq_true_eq] at hc
        obtain ⟨c1, c2, c3, c4, c5⟩ := hc
        subst c1 c2
        split at c4
        · rename_i cl cld D csl hcell
          have hD : D = ca K c := of_decide_eq_true c4
          subst hD
          split at c5
          · rename_i ccl cdd vs ccs hcode
            split at c5
            · rename_i z tf hz
              have hz2 : z = file := of_decide_eq_true c5
              subst hz2
              exact ⟨⟨cc, cda, _, ⟨⟨oc, od, _, n9, n10, n11, n12, n14, osl, rfl, q⟩, c3, ⟨ccl, cdd, vs, ccs, z, tf, hcode, hz, hf⟩, ⟨cl, cld, csl, hcell⟩, ⟨oexB_ok ho, h1, h2, h3, h4⟩, h5, h6, h7, h8⟩, n9, n10, n11, n12, n14, rfl⟩, h9, h10, h11⟩
            · cases c5
          · cases c5
        · cases c4
      · cases hc
    | _ => cases hc
/-- the name c makes an error that keeps what it is given under the names ns -/
structure ErrOk (P : Program) (w : World) (K : Frag) (mg : Str → Option Value) (base : Heap) (k : Nat) (c : String) (ns : List String) : Prop where
  ex : ∃ f fd ps, mg (Str.ofString c) = some (.ref (ca K c)) ∧ OexC K (ca K c) ∧ PySem.W.findIn K (.ref (ca K c)) "__init__" = some (some (.ref f)) ∧ PySem.W.typeIn K (.ref f) = some (.type "function") ∧ Binds K fd ps [] ∧
    FnOk P w K mg base (L2N.CX P w) k f fd ps (spX (ca K c) ns.length (ns.map Str.ofString))
/-! ### its fields, laid one behind another -/
section
variable {K : Frag} {f g : Str} {C : Addr}
theorem fld_two (T : OexC K C) (hno : PySem.W.findIn K (.ref C) f = some none) (hno2 : PySem.W.findIn K (.ref C) g = some none) {a : Addr} {ws : List V} {H1 : Hp} {D : Ends} {σ : L2.St} (h0 : σ[0]? = some (some (.ref a))) (h1 : ∀ i v, ws[i]? = some v → σ[i + 1]? = some (some v)) (hl : ws.length = 2) (hn : H1 a = none)
    (q : ∀ d H2 σ', H2 a = some (exo a C (some d)) → H2 d = some (exd d (([f, g] : List Str).zip ws).reverse) → H1 d = none → d ≠ a → (∀ b, b ≠ a → b ≠ d → H2 b = H1 b) → D.nx σ' H2) : tSeq (tOst K f (tVar 0) (tVar 1)) (tOst K g (tVar 0) (tVar 2)) D σ (upd H1 a (exo a C none)) := by
  match ws, hl with
  | [v, w], _ =>
    refine ⟨v, h1 0 v rfl, _, h0, a, C, rfl, T, hno, .inl ⟨upd_same, fun dx hdx hne => ?_⟩⟩
    have hdx2 : H1 dx = none := by
      rw [upd_ne hne] at hdx
      exact hdx
    refine ⟨w, h1 1 w rfl, _, h0, a, C, rfl, T, hno2, .inr ⟨dx, [(f, v)], upd_same, ?_, by simp, q dx _ σ ?_ ?_ hdx2 hne fun b hb hd => ?_⟩⟩
    · rw [upd_ne hne, upd_same]
    · rw [upd_ne hne.symm, upd_same]
    · rw [upd_same]
      rfl
    · rw [upd_ne hd, upd_ne hb, upd_ne hd, upd_ne hb]
end
theorem ErrF.T {P : Program} {K : Frag} {c : String} {nm qual : Str} {params : Arguments} {body : List Stmt} {scope : Scope} {fs : List String} (F : ErrF P K c nm qual params body scope fs) : OexC K (ca K c) := by
  obtain ⟨⟨cc, cda, fd, XI, _⟩, _⟩ := F
  exact XI.T
/-! ### raise -/
theorem RepF.append {K : Frag} {A : AS} {H : Hp} : ∀ {fs gs : List (String × D)} {us vs : List (Str × V)}, RepF K A H fs us → RepF K A H gs vs → RepF K A H (fs ++ gs) (us ++ vs)
  | [], gs, us, vs, h, k => by
    simp only [RepF] at h
    subst h
    exact k
  | (n, d) :: fs, gs, us, vs, h, k => by
    simp only [RepF] at h
    obtain ⟨v, r, rfl, h1, h2⟩ := h
    simp only [List.cons_append, RepF]
    exact ⟨v, r ++ vs, rfl, h1, RepF.append h2 k⟩
theorem repF_zip {K : Frag} {A : AS} {H : Hp} : ∀ {ns : List String} {ds : List D} {vs : List V}, RepL K A H ds vs → RepF K A H (ns.zip ds).reverse ((ns.map Str.ofString).zip vs).reverse
  | [], ds, vs, h => by simp [RepF]
  | n :: ns, [], vs, h => by
    simp only [RepL] at h
    subst h
    simp [RepF]
  | n :: ns, d :: ds, vs, h => by
    simp only [RepL] at h
    obtain ⟨v, r, rfl, h1, h2⟩ := h
    simp only [List.zip_cons_cons, List.map_cons, List.reverse_cons]
    refine RepF.append (repF_zip h2) ?_
    simp only [RepF]
    exact ⟨v, [], rfl, h1, rfl⟩
section
variable {fr : Rm} {X : Cx} {W : WX} {ow oN oB : Ow} {e : Expr} {es : List Expr} {am : AM} {pos p rpos : Pos} {k j : Nat} {c : String} {ns : List String}
theorem s_raise (T : Ctx X W j) (C : ErrOk X.prog X.w X.K X.mg X.base k c ns) (hk : k + 1 ≤ j) (hg : Gl X (Str.ofString c)) (ha : PA X (e :: es) (aE X.K W ow am)) (hz : ns.length ≤ 1000 := by decide)
    (hdb : (Str.ofString c == ("__debug__" : Str)) = false := by decide) (he : starEach (e :: es) X.env = (false, eval e X.env) :: starEach es X.env := by rfl) (hpl : (backTo pos (starEach es X.env)).any (·.1) = false := by rfl) :
    PS X (.Raise (some (.Call (.Name (Str.ofString c) p) (e :: es) [] pos)) none rpos) (tS3 fr X.K W ow oN oB (rais c ns am)) := by
  obtain ⟨f, fd, ps, hm, TO, hi, ht, hb, F⟩ := C.ex
  refine PS.of (L2N.ps_raise T.calm T.tk (pmkN TO hi ht F (T.hr.mono hk) hb passLN hg hm ha hdb he hpl)) fun D σ H ⟨A, H0, O, en, R, q⟩ => ?_
  refine ⟨A, H0, O, en, R, ((Out.bind (show Out (am en >>= fun ds => if ds.length = ns.length then (Res.exc c (ns.zip ds).reverse : Res Fl) else .stuck) _ _ from q)).se R).good fun ds q1 vs H1 s1 r1 => ?_⟩
  have r2 := paired_rep r1
  by_cases hl : ds.length = ns.length
  · rw [if_pos hl] at q1
    refine ⟨by rw [← r2.length, hl]; exact hz, fun a hn => ⟨a, H1, vs ++ [], by simp, rfl, hn, by simp [← r2.length, hl], fun d H2 k1 k2 k3 k4 k5 => ⟨rfl, d, _, k1, k2, k3, ?_⟩⟩⟩
    have sm : Same H1 (upd (del H2 a) d (.xd ((ns.map Str.ofString).zip (vs ++ [])).reverse)) := fun b o eb => by
      have hba : b ≠ a := ne_of_none eb hn
      have hbd : b ≠ d := ne_of_none eb k3
      rw [upd_ne hbd, del_ne hba, k5 b hba hbd]
      exact eb
    refine (show badS X.K W A H0 c (ns.zip ds).reverse from q1) σ d _ _ (R.same.trans (s1.trans sm)) upd_same ?_
    have r3 : RepL X.K A (upd (del H2 a) d (.xd ((ns.map Str.ofString).zip (vs ++ [])).reverse)) ds (vs ++ []) := by
      have r4 : RepL X.K A _ ds vs := RepL.move (Mv.less (A := AO A O) (A' := A) fun b hb => Or.inl hb) ds vs (RepL.move (Mv.same sm) ds vs r2)
      simpa using r4
    exact repF_zip r3
  · rw [if_neg hl] at q1
    exact q1.elim
end
end Py
/-! Within an except suite, and within what is called there. -/
namespace Py
open PySem L2 L2H
structure CtxH (X : Cx) (W : WX) (k : Nat) : Prop where
  tk : L2N.Takes X W
  po : PassesOwn (model X.prog X.w) X.A X.env X.xe
  hr : RoomH k X.A
  hot : HotC X
  nd : X.N.Nodup
theorem CtxH.eq {X : Cx} {W : WX} {k : Nat} (T : CtxH X W k) : OpR X (compareOp .Eq) (r2 X.K oeq) := y_eq (by have := T.hr.un; omega)
theorem CtxH.ne {X : Cx} {W : WX} {k : Nat} (T : CtxH X W k) : OpR X (compareOp .NotEq) (r2 X.K one) := y_ne (by have := T.hr.un; omega)
/-! ### loops over a range -/
/-! ### calls -/
theorem FnH.mono {P : Program} {w : World} {K : Frag} {mg : Str → Option Value} {base : Heap} {CX : CXT} {j k : Nat} {f : Addr} {fd : FuncData} {ps : List Str} {sp : Sp} (F : FnH P w K mg base CX j f fd ps sp) (h : j ≤ k) : FnH P w K mg base CX k f fd ps sp :=
  ⟨F.len, fun A outer s H args us vs Q E p hr => F.run A outer s H args us vs Q E p (hr.mono h)⟩
end Py
/-! try .. except X as e, and what is asked of e. -/
namespace Py
open PySem L2 L2H
/-! ### facts -/
def xcV (K : Frag) (t : String) : V := if t = "ValueError" then .ty "ValueError" else .ref (ca K t)
/-! ### the body: an error leaves the names as they are -/
/-! ### try -/
end Py
/-! What a suite asks of the caught error: isinstance, fields. -/
namespace Py
open PySem L2 L2H
open He (Fa DefD Tab FnW)
/-- a tuple of classes as written, by names -/
inductive XcL (X : Cx) : List Expr → List String → TA → Prop
  | nil : XcL X [] [] tNil
  | cons {e : Expr} {es : List Expr} {t : String} {ts : List String} {r : TA} (h : PE X e (tC (xcV X.K t))) (k : XcL X es ts r) (hs : starEach (e :: es) X.env = (false, eval e X.env) :: starEach es X.env) : XcL X (e :: es) (t :: ts) (tCons (tC (xcV X.K t)) r)
theorem XcL.pa {X : Cx} {es : List Expr} {ts : List String} {r : TA} (h : XcL X es ts r) : PA X es r := by
  induction h with
  | nil => exact pa_nil
  | cons h _ hs ih => exact pa_cons h ih hs
theorem XcL.run {X : Cx} {es : List Expr} {ts : List String} {r : TA} (h : XcL X es ts r) : ∀ {σ : L2.St} {H : Hp} {Q : List V → Hp → Prop}, Q (ts.map (xcV X.K)) H → r σ H Q := by
  induction h with
  | nil => exact fun q => q
  | cons h _ hs ih => exact fun q => ih (Q := fun xs H2 => _) q
/-! ### an error's __init__, by the head -/
section
variable {P : Program} {w : World} {K : Frag} {mg : Str → Option Value} {base : Heap} {nm qual self txt : Str} {params : Arguments} {body rest : List Stmt} {scope : Scope} {N ps : List Str} {k : Nat} {ar : Arg} {c : String} {ns : List String}
theorem err_ok (F : ErrF P K c nm qual params body scope ns) (g : mg (Str.ofString c) = some (.ref (ca K c))) (hmg : mg "super" = none) (htop : (P.main.scope.names.lookup ("super" : Str)).isSome = false) (hps : ps = self :: ns.map Str.ofString) (S : NdefX.NScope N ps ["__class__"] scope)
    (har : (params.posonlyargs ++ params.args).head? = some ar) (hself : ar.arg = self) (hsk : scope.names.lookup ("super" : Str) = some .globalImplicit) {p0 p1 p2 p3 p4 p5 : Pos} {j : Nat}
    (hbody : body = .Expr (.Call (.Attribute (.Call (.Name "super" p0) [] [] p1) "__init__" p2) [.Constant (.str txt) j p3] [] p4) p5 :: rest)
    (hbind : ∀ (kV doc pm : Value) (an : Option Addr) (cdv ct : Value) (cc : Addr) (us : List Value), us.length = ps.length → bindArgs (PySem.W.ksFn nm qual params body scope .none kV doc pm an cdv ct cc) ⟨us, []⟩ = pure (ps.zip us))
    {t : TS} (hb : ∀ (f cc cda : Addr) (A : Around) (outer : List PySem.Env) (s : Shared) (H : Hp) (E : XK), PSs (NdefX.ncx (L2N.CX P w) P w K mg base N ⟨nm, qual, params, body, scope, [("__class__", cc)], cda⟩ f A outer s H E) rest t)
    (ht : ∀ (a : Addr) (ws : List V) (H1 : Hp) (Dn : Ends) (σ : L2.St), σ[0]? = some (some (.ref a)) → (∀ i v, ws[i]? = some v → σ[i + 1]? = some (some v)) → ws.length = ns.length → H1 a = none →
      (∀ d H2 σ', H2 a = some (exo a (ca K c) (some d)) → H2 d = some (exd d ((ns.map Str.ofString).zip ws).reverse) → H1 d = none → d ≠ a → (∀ b, b ≠ a → b ≠ d → H2 b = H1 b) → Dn.nx σ' H2) → t Dn σ (upd H1 a (exo a (ca K c) none)))
    (hin : ∀ (L f cda cc : Addr), interactive (PySem.W.ksEnv qual scope L f (.ref cda) cc) = false)
    (hsw : ∀ (L f cda cc : Addr), swapsWith (.Call (.Attribute (.Call (.Name "super" p0) [] [] p1) "__init__" p2) [.Constant (.str txt) j p3] [] p4) none p5.line (PySem.W.ksEnv qual scope L f (.ref cda) cc) = pure false)
    {pl : Addr → Addr → Addr → Sem Bool} (hea : ∀ (L f cda cc : Addr), eval (.Call (.Attribute (.Call (.Name "super" p0) [] [] p1) "__init__" p2) [.Constant (.str txt) j p3] [] p4) (PySem.W.ksEnv qual scope L f (.ref cda) cc) = (do
      let ov ← attributeBase (.Call (.Name "super" p0) [] [] p1) "__init__" (PySem.W.ksEnv qual scope L f (.ref cda) cc) (eval (.Call (.Name "super" p0) [] [] p1) (PySem.W.ksEnv qual scope L f (.ref cda) cc))
      standAt p2.atName
      let (g, first) ← holding [ov] (getMethod ov "__init__" (pl f cda cc))
      callWith p4 g first (backTo p4 (starEach [.Constant (.str txt) j p3] (PySem.W.ksEnv qual scope L f (.ref cda) cc))) []))
    (hst : ∀ (L f cda cc : Addr), starEach [.Constant (.str txt) j p3] (PySem.W.ksEnv qual scope L f (.ref cda) cc) = [(false, eval (.Constant (.str txt) j p3) (PySem.W.ksEnv qual scope L f (.ref cda) cc))]) :
    ErrOk P w K mg base (k + 1) c ns := by
  obtain ⟨⟨cc, cda, fd, XI, kV, doc, pm, an, ct, hfd⟩, hini, htyp, hno⟩ := F
  refine ⟨_, fd, ps, g, XI.T, hini, htyp, ?_, ?_⟩
  · rw [hfd]
    exact .all (hbind kV doc pm an _ ct cc)
  · exact xinit_ok XI hps (by simp) S har hself hmg hsk htop hbody (hb _ cc cda) ht (fun L => hin L _ _ _) (fun L => hsw L _ _ _) (fun L => hea L _ _ _) (fun L => hst L _ _ _)
end
/-! ### the hook, the facts -/
section
open He
theorem obsYG_eq {n : Nat} {more : Frag → Bool} {fa : List Fa} {fn xf : List DefD} {ts : List Tab} {g : Addr → Option Obj} {s : Shared} (h : ∀ a, g a = s.heap.get? a) : obsYG n more fa fn xf ts g = (hookY n more fa fn xf ts).obs s := by
  have e : g = s.heap.get? := funext h
  rw [e] <;> rfl
end
structure FactsY (fa : List Fa) (fn xf : List DefD) (ts : List Tab) (ms : List (Frag → Bool)) (file : Str) (P : Program) (w : World) (K : Frag) (mg : Str → Option Value) : Prop extends Facts fa fn ts ms w K mg where
  x : (xf.map fun d => fnWx K d.at_) = xf.map DefD.val
  pf : ((P.main.file : Str) == file) = true
  ps : (P.main.scope.names.lookup ("super" : Str)).isSome = false
section
variable {fa : List Fa} {fn xf : List DefD} {ts : List Tab} {ms : List (Frag → Bool)} {file : Str} {P : Program} {w : World} {K : Frag} {mg : Str → Option Value}
theorem FactsY.err (Y : FactsY fa fn xf ts ms file P w K mg) (i j : Nat) {d : DefD} {c : String} {fs : List String} (h : xf[i]? = some d := by rfl) (hat : d.at_ = (Str.ofString c, some ("__init__" : Str)) := by rfl) (hm : ms[j]? = some (errB file c d.qual fs) := by rfl) : ErrF P K c d.name d.qual d.params d.body d.scope fs := by
  refine err_f hat Y.pf ?_ (Y.toFacts.more j hm)
  have e2 : (xf.map fun d => fnWx K d.at_)[i]? = (xf.map DefD.val)[i]? := by rw [Y.x]
  rw [List.getElem?_map, List.getElem?_map, h] at e2
  exact Option.some.inj e2
end
end Py
/-! A tuple so many times. -/
/-! Lists and tuples walked within an except suite; except X as e for an own class X. -/
/-! Dict displays, list(range(..)), max and min of a list, starred items, extend. -/
namespace Py
open PySem PySem.Spec PyProof.Rows L2
theorem Ctx.inn {X : Cx} {W : WX} {k : Nat} (T : Ctx X W k) : OpR X (compareOp .In) (r2 X.K oin) := y_in (by have := T.hr.un; omega)
theorem Ctx.nin {X : Cx} {W : WX} {k : Nat} (T : Ctx X W k) : OpR X (compareOp .NotIn) (r2 X.K onotin) := y_notin (by have := T.hr.un; omega)
theorem Ctx.ix {X : Cx} {W : WX} {k : Nat} (T : Ctx X W k) : IxR X (r2 X.K oidx) := y_idx (by have := T.hr.un; omega)
theorem Ctx.st {X : Cx} {W : WX} {k : Nat} (T : Ctx X W k) : PSet X (rSetX X.K) := set_any (by have := T.hr.un; omega)
theorem CtxH.inn {X : Cx} {W : WX} {k : Nat} (T : CtxH X W k) : OpR X (compareOp .In) (r2 X.K oin) := y_in (by have := T.hr.un; omega)
theorem CtxH.nin {X : Cx} {W : WX} {k : Nat} (T : CtxH X W k) : OpR X (compareOp .NotIn) (r2 X.K onotin) := y_notin (by have := T.hr.un; omega)
theorem CtxH.ix {X : Cx} {W : WX} {k : Nat} (T : CtxH X W k) : IxR X (r2 X.K oidx) := y_idx (by have := T.hr.un; omega)
theorem CtxH.st {X : Cx} {W : WX} {k : Nat} (T : CtxH X W k) : PSet X (rSetX X.K) := set_any (by have := T.hr.un; omega)
/-! ### {} and {k: v} -/
theorem dicT_stay {a : Addr} {es : List (NestedKey × Addr × V)} {P : Program} {w : World} {H : Hp} {h : Heap} (h1 : (a == sysModules) = false) (h2 : es.length ≤ sizeLine) {xs : List (NestedKey × Addr × Value)} (p : PT3 es xs) {o : Obj} {en : Array DictEntry} {ep : Nat}
    (g1 : h.get? a = some o) (g2 : o.ExactDict) (g3 : o.data = .dict en ep) (g4 : ∀ w : World, en.toList = xs.map (entW w)) (g5 : (xs.map (·.1)).Nodup) : ObjOk P w H h a (dicT a es) := by
  refine ⟨⟨h1, h2, xs, p, o, en, ep, g1, g2, g3, g4, g5⟩, ⟨o, g1⟩, ?_⟩
  rintro h1 h2 ⟨y1, y2, xs', y3, o', en2, ep2, z1, z2⟩ hk2
  exact ⟨y1, y2, xs', y3, o', en2, ep2, hk2 _ z1, z2⟩
theorem dicT_empty {P : Program} {w : World} {H : Hp} (h : Heap) (hb : sysModules < h.objs.size) : ObjOk P w H (h.push { cls := .type "dict", data := .dict #[] }) h.objs.size (dicT h.objs.size []) :=
  dicT_stay (beq_eq_false_iff_ne.mpr (Nat.ne_of_gt hb)) (Nat.zero_le _) .nil (Heap.get?_push_size _ rfl) ⟨rfl, rfl, rfl⟩ rfl (fun _ => rfl) List.nodup_nil
def tDic0 (t : Bool) : TE := fun _ H Q => ∀ p, H p = none → Q (.ref p) (upd H p (if t then dicT p [] else .dK []))
section
variable {X : Cx} {W : WX} {ow : Ow} {k v : Expr} {mk mv : EM} {pos : Pos}
theorem pe_dic0 (t : Bool) : PE X (.Dict [] [] pos) (tDic0 t) := by
  cases t with
  | false => exact pe_dnewK
  | true => exact ⟨fun pins s σ H Q I h => wpAny_Dict_empty ⟨.ref s.heap.objs.size, _, I.laid (a := s.heap.objs.size) (o := dicT s.heap.objs.size []) (t' := s.toks) (fun _ _ q => Heap.get?_push_of_some _ q) (Nat.le_refl _) (dicT_empty s.heap I.big), rfl, h _ (I.hok.fresh (Nat.le_refl _))⟩⟩
theorem f_dic0 (t : Bool) : PE X (.Dict [] [] pos) (tF X.K W ow (dic0 t)) :=
  PE.of (pe_dic0 t) fun σ H Q ⟨A, H0, O, en, R, q⟩ p hp => q p _ hp (new_same hp) (by
    cases t with
    | false => exact .inl ⟨rfl, [], upd_same, by simp [RepK]⟩
    | true => exact .inr ⟨rfl, [], upd_same, by simp [RepT]⟩)
theorem mv_disp {A : AS} {O : OW} {H2 : Hp} {p : Addr} {u o : HO} (e2 : H2 p = some u) (hu : ¬ still u) : Mv (AO (fun b => A b ∨ b = p) O) H2 (fun b => AO A O b ∨ b = p) (upd H2 p o) := ⟨fun b hb => .inl (by
    rcases hb with (hb | hb) | hb
    · exact .inl (.inl hb)
    · exact .inr hb
    · exact .inl (.inr hb)), fun b o' e hb => by
    rw [upd_ne]
    · exact e
    · intro z
      subst z
      rcases hb with hb | hb
      · exact hb (.inl (.inr rfl))
      · rw [e2] at e
        cases e
        exact hu hb⟩
theorem ER.aside {K : Frag} {A : AS} {H0 : Base} {O : OW} {σ : L2.St} {H : Hp} {e : Env} (R : ER K A H0 ow O σ H e) {p : Addr} {o : HO} (hp : H p = none) : ER K (fun b => A b ∨ b = p) H0 ow O σ (upd H p o) e :=
  R.more (fun b hb => by
    rcases hb with hb | hb
    · exact ne_none (new_same hp) (R.a0 b hb)
    · rw [hb, upd_same]
      exact fun z => nomatch z) (new_same hp) (fun b hb => hb.elim .inl fun z => by rw [z]; exact .inr hp) fun b hb => .inl hb
/-- errors within: seen from before -/
theorem badE.aside {K : Frag} {A : AS} {O : OW} {σ : L2.St} {H : Hp} {p : Addr} {o : HO} (hp : H p = none) {c : String} {fs : List (String × D)} (h : badE K W A O σ H c fs) : badE K W (fun b => A b ∨ b = p) O σ (upd H p o) c fs := fun da H' fvs s hd r =>
  h da H' fvs ((new_same hp).trans s) hd (RepF.move (Mv.less fun b hb => by
    rcases hb with hb | hb
    · exact .inl (.inl hb)
    · exact .inr hb) _ _ r)
/-- {k: v}, k a number or a text -/
theorem f_dicK (hk : PE X k (tE X.K W ow mk)) (hv : PE X v (tE X.K W ow mv)) : PE X (.Dict [some k] [v] pos) (tF X.K W ow (dic1 false mk mv)) :=
  PE.of (pe_disp (pps_cons hk hv pps_nil) rfl rfl (fun z => by cases z) (by simp)) fun σ H Q ⟨A, H0, O, en, R, q⟩ p hp => by
    have R' := R.aside (o := .dK []) hp
    refine ⟨_, H0, O, en, R', ((Out.bind q).imp (fun _ _ z => z) fun c fs z => badE.aside hp z).good fun kd q1 x H1 s1 r1 => ⟨_, H0, O, en, R'.to s1, (((Out.bind q1).imp (fun _ _ z => z) fun c fs z => badE.aside (o := .dK []) hp z).to s1).good fun vd q2 y H2 s2 r2 => ?_⟩⟩
    have e2 : H2 p = some (.dK []) := s2 _ _ (s1 _ _ upd_same)
    refine ⟨e2, ?_⟩
    split at q2
    · rename_i hko
      obtain ⟨c, hc⟩ := keyK hko
      have hx := kv_rep hc r1
      subst hx
      refine ⟨[(c, y)], rfl, by simp, ?_⟩
      have s3 : Same H (upd H2 p (.dK (mergeK [] [(c, y)]))) := fun b o e => by
        rw [upd_ne fun z => by
          subst z
          rw [hp] at e
          cases e]
        exact s2 _ _ (s1 _ _ (new_same hp _ _ e))
      refine q2 p _ hp s3 (.inl ⟨rfl, [(c, y)], by rw [upd_same]; rfl, ?_⟩)
      simp only [RepK]
      exact ⟨c, y, [], rfl, hc, Rep.move (mv_disp e2 fun z => z) _ _ r2, rfl⟩
    · exact q2.elim
end
/-! ### list(range(..)) -/
section
variable {X : Cx} {W : WX} {ow : Ow} {a b e : Expr} {es : List Expr} {m ma mb : EM} {am : AM} {pos p p2 : Pos}
theorem rgV_rep {K : Frag} {A : AS} {H : Hp} (lo hi : Int) : RepL K A H (rngL lo hi) (rgV lo hi) := by
  have key : ∀ l : List Nat, RepL K A H (l.map fun i => D.int (lo + (i : Nat))) (l.map fun i => V.int (lo + (i : Nat))) := by
    intro l
    induction l with
    | nil => simp [RepL]
    | cons x l ih =>
      simp only [List.map_cons, RepL]
      exact ⟨_, _, rfl, by simp [Rep], ih⟩
  unfold rngL rgV
  exact key _
theorem new_own {K : Frag} {A : AS} {H : Hp} {p : Addr} {ds : List D} {vs : List V} (hp : H p = none) (r : RepL K A H ds vs) : OwnAt K (fun b => A b ∨ b = p) (upd H p (.lst vs)) p (.lst ds) :=
  ⟨vs, upd_same, RepL.move ⟨fun b hb => by
      rcases hb with hb | rfl
      · exact .inl hb
      · exact .inr hp, fun b o e _ => new_same hp b o e⟩ _ _ r⟩
theorem f_lrng1 (hc : X.calm = true) (hgl : Gl X "list") (hml : X.mg "list" = none) (hg : Gl X "range") (hm : X.mg "range" = none) (ha : PE X a (tE X.K W ow ma)) (hs : starEach [a] X.env = [(false, eval a X.env)] := by rfl)
    (hs2 : starEach [.Call (.Name "range" p) [a] [] p2] X.env = [(false, eval (.Call (.Name "range" p) [a] [] p2) X.env)] := by rfl) {pn : Pos} : PE X (.Call (.Name "list" pn) [.Call (.Name "range" p) [a] [] p2] [] pos) (tF X.K W ow (lrngE (irng1 ma))) :=
  PE.of (pe_listRg hc hgl hml (prg_1 hg hm ha hs) hs2) fun σ H Q ⟨A, H0, O, en, R, q⟩ => ⟨A, H0, O, en, R, (Out.bind (Out.bind q)).good fun d q1 v H1 s1 r1 => by
    cases d with
    | int n =>
      have r1' : v = .int n := r1
      subst r1'
      dsimp only at q1
      split at q1
      · rename_i hz
        have q2 : Out (if (rngL 0 n).length ≤ 1000000 then Res.ok (D.lst (rngL 0 n)) else Res.stuck) _ _ := q1
        split at q2
        · rename_i hl
          have hl2 : (n - 0).toNat ≤ 1000000 := by
            unfold rngL at hl
            simpa using hl
          obtain ⟨z1, z2⟩ := nb62 hz
          refine ⟨n, rfl, ⟨by decide, by decide, z1, z2, by omega⟩, fun q3 hq => q2 q3 _ (s1.free hq) (s1.trans (new_same hq)) (new_own hq (rgV_rep 0 n))⟩
        · exact q2.elim
      · exact q1.elim
    | _ => exact q1.elim⟩
/-! ### starred items -/
end
end Py
/-! max, min of a list; extend; ranges with a step. -/
namespace Py
open PySem PySem.Spec PyProof.Rows L2
/-! ### max, min -/
theorem foldmax : ∀ (is : List Int) (i : Int), (is.foldl (fun a b => if b > a then b else a) i) ∈ i :: is ∧ ∀ j ∈ i :: is, j ≤ is.foldl (fun a b => if b > a then b else a) i
  | [], i => ⟨by simp, fun j hj => by rw [List.mem_singleton.mp hj]; exact Int.le_refl _⟩
  | k :: is, i => by
    simp only [List.foldl_cons]
    obtain ⟨h1, h2⟩ := foldmax is (if k > i then k else i)
    refine ⟨?_, fun j hj => ?_⟩
    · rcases List.mem_cons.mp h1 with h | h
      · rw [h]
        split <;> simp
      · exact List.mem_cons_of_mem _ (List.mem_cons_of_mem _ h)
    · have h0 := h2 _ List.mem_cons_self
      rcases List.mem_cons.mp hj with rfl | hj
      · split at h0 <;> split <;> omega
      · rcases List.mem_cons.mp hj with rfl | hj
        · split at h0 <;> split <;> omega
        · exact h2 j (List.mem_cons_of_mem _ hj)
theorem foldmin : ∀ (is : List Int) (i : Int), (is.foldl (fun a b => if b < a then b else a) i) ∈ i :: is ∧ ∀ j ∈ i :: is, is.foldl (fun a b => if b < a then b else a) i ≤ j
  | [], i => ⟨by simp, fun j hj => by rw [List.mem_singleton.mp hj]; exact Int.le_refl _⟩
  | k :: is, i => by
    simp only [List.foldl_cons]
    obtain ⟨h1, h2⟩ := foldmin is (if k < i then k else i)
    refine ⟨?_, fun j hj => ?_⟩
    · rcases List.mem_cons.mp h1 with h | h
      · rw [h]
        split <;> simp
      · exact List.mem_cons_of_mem _ (List.mem_cons_of_mem _ h)
    · have h0 := h2 _ List.mem_cons_self
      rcases List.mem_cons.mp hj with rfl | hj
      · split at h0 <;> split <;> omega
      · rcases List.mem_cons.mp hj with rfl | hj
        · split at h0 <;> split <;> omega
        · exact h2 j (List.mem_cons_of_mem _ hj)
section
variable {X : Cx}
theorem v_maxL (hc : X.calm = true) : CallR X (.builtin "max") (c1 X.K bmaxL) := cimp (cr_max hc) fun xs H Q ⟨x, e0, A, d1, d, h1, ha, e, k⟩ => by
  subst e0
  cases d1 with
  | lst xs =>
    simp only [bmaxL] at e
    split at e
    · rename_i i is hi
      simp only [Res.ok.injEq] at e
      subst e
      obtain ⟨a, vs, rfl, q, r⟩ := h1
      have e1 := ints_of r hi
      subst e1
      obtain ⟨f1, f2⟩ := foldmax is i
      refine ⟨a, i :: is, rfl, .inl q, by simp, fun m hm hle => ?_⟩
      have : m = is.foldl (fun a b => if b > a then b else a) i := by
        have a1 := f2 m hm
        have a2 := hle _ f1
        omega
      rw [this]
      exact k _ H (Same.refl H) (flat_rep rfl _ _)
    · cases e
  | _ => simp [bmaxL] at e
theorem v_minL (hc : X.calm = true) : CallR X (.builtin "min") (c1 X.K bminL) := cimp (cr_min hc) fun xs H Q ⟨x, e0, A, d1, d, h1, ha, e, k⟩ => by
  subst e0
  cases d1 with
  | lst xs =>
    simp only [bminL] at e
    split at e
    · rename_i i is hi
      simp only [Res.ok.injEq] at e
      subst e
      obtain ⟨a, vs, rfl, q, r⟩ := h1
      have e1 := ints_of r hi
      subst e1
      obtain ⟨f1, f2⟩ := foldmin is i
      refine ⟨a, i :: is, rfl, .inl q, by simp, fun m hm hle => ?_⟩
      have : m = is.foldl (fun a b => if b < a then b else a) i := by
        have a1 := f2 m hm
        have a2 := hle _ f1
        omega
      rw [this]
      exact k _ H (Same.refl H) (flat_rep rfl _ _)
    · cases e
  | _ => simp [bminL] at e
theorem n_maxL : NoEx1 bmaxL := fun x c fs => by
  cases x <;> simp only [bmaxL] <;> first | (split <;> rfl) | rfl
theorem n_minL : NoEx1 bminL := fun x c fs => by
  cases x <;> simp only [bminL] <;> first | (split <;> rfl) | rfl
end
/-! ### extend -/
end Py
/-! len(x) by an own __len__. -/
namespace Py
open PySem PySem.Spec PyProof.Rows L2
theorem cx_no {P : Program} {w : World} {st : List PySem.Env} {H : Hp} {s : Shared} {e : Value} {s' : Shared} (h : L2N.CX P w st H s (fun _ _ _ => False) e s') : False := by
  obtain ⟨a, B, H', cls, d, rfl, fl, hok, ub, na, os, ag, hE⟩ := h
  exact hE
structure LenOk (P : Program) (w : World) (K : Frag) (mg : Str → Option Value) (base : Heap) (j : Nat) (c : String) (fm : List D → Res D) : Prop where
  ex : ∃ f fd ps k, k + 1 ≤ j ∧ PySem.W.findIn K (.ref (ca K c)) "__len__" = some (some (.ref f)) ∧ PySem.W.isFn K (.ref f) = true ∧ Binds K fd ps [] ∧ FnOk P w K mg base (L2N.CX P w) k f fd ps (spM K 1 fm)
section
variable {X : Cx} {W : WX} {j : Nat}
theorem v_lenX {ms : List (String × (List D → Res D))} (T : Ctx X W j) (hms : ∀ c fm, ms.lookup c = some fm → LenOk X.prog X.w X.K X.mg X.base j c fm) : CallR X (.builtin "len") (c1 X.K (lenX ms)) := by
  intro pins s σ H xs us Q I rx ⟨x, e0, A, d1, d, h1, ha, e, k⟩
  cases d1 with
  | ins c fs =>
    simp only [lenX] at e
    cases hl : ms.lookup c with
    | none =>
      rw [hl] at e
      cases e
    | some fm =>
      rw [hl] at e
      dsimp only at e
      obtain ⟨f, fd, ps, k0, hk, hs, hf, hb, F⟩ := (hms c fm hl).ex
      subst e0
      obtain ⟨a, dx, fvs, rfl, q, r⟩ := h1
      cases rx with
      | cons rr rt =>
        cases rt
        cases (show _ = Value.ref a from rr)
        cases hfm : fm [.ins c fs] with
        | exc _ _ => rw [hfm] at e; cases e
        | pick _ _ => rw [hfm] at e; cases e
        | stuck => rw [hfm] at e; cases e
        | ok dn =>
          rw [hfm] at e
          cases dn with
          | int n =>
            have e : (if 0 ≤ n ∧ n.natAbs < B62 then Res.ok (D.int n) else Res.stuck) = Res.ok d := e
            split at e
            · rename_i hn
              simp only [Res.ok.injEq] at e
              subst e
              obtain ⟨mA, J, _⟩ := ins_get I.hok q
              obtain ⟨od, J, _⟩ := J.look
              obtain ⟨m, hF⟩ := I.fr
              refine PySem.W.len_K hF I.ok.mod.kin J hs hf ?_
              have hsp : spM X.K 1 fm [.ref a] H (fun v H' => v = .int n ∧ Same H H') (fun _ _ _ => False) := ⟨fun _ => False, [.ins c fs], by
                simp only [RepL, Rep]
                exact ⟨_, [], rfl, ⟨a, dx, fvs, rfl, fun z => z, q, RepF.move (Mv.less fun _ z => z.elim) _ _ r⟩, rfl⟩, rfl, fun _ z => z.elim, by
                rw [hfm]
                exact fun v H' s' r' => ⟨r', s'⟩⟩
              have e0 : Env0 X.prog X.w X.K X.mg X.base X.A.in1 X.stack s H := by
                have e := I.env0
                exact ⟨e.frames, e.mod, e.bs, e.bsz, e.funs, e.frf, e.hok, e.bare⟩
              have hlen := F.len _ _ _ _ hsp
              refine wpAny_call (codeAny_mono (F.run X.A.in1 X.stack s H ⟨[.ref a], []⟩ [.ref a] [.ref a] _ (fun _ _ _ => False) (Room.in1 (T.hr.mono hk)) e0 (by
                have := hb s [.ref a] I.kIn (by simpa using hlen)
                simpa using this) (.cons rfl .nil) hsp) fun r s' hq => ?_)
              cases r with
              | error e => exact (cx_no hq).elim
              | ok fl =>
                cases fl with
                | ret w =>
                  obtain ⟨z, H', I', rz, ez, ex⟩ := I.after hq
                  subst ez
                  obtain ⟨tk, rfl⟩ := rz
                  obtain ⟨z1, z2⟩ := nb62 hn.2
                  exact ⟨⟨hn.1, by omega⟩, .int n, H', I'.tok _, ⟨_, rfl⟩, k _ H' ex rfl⟩
                | next => exact False.elim hq
                | brk => exact False.elim hq
                | cont => exact False.elim hq
            · cases e
          | _ => cases e
  | _ => exact v_len pins s σ H xs us Q I rx ⟨x, e0, A, _, d, h1, ha, e, k⟩
theorem n_lenX {ms : List (String × (List D → Res D))} : NoEx1 (lenX ms) := fun x c fs => by
  have hb : ∀ d, (blen d).isP = true := fun d => n_len d c fs
  cases x with
  | ins c' fs' =>
    simp only [lenX]
    split
    · split
      · split <;> rfl
      · rfl
    · rfl
  | lst xs => exact n_len (.lst xs) c fs
  | tup xs => exact n_len (.tup xs) c fs
  | str xs => exact n_len (.str xs) c fs
  | dic t xs => exact n_len (.dic t xs) c fs
  | _ => rfl
theorem len_ok {P : Program} {w : World} {K : Frag} {mg : Str → Option Value} {base : Heap} {j k : Nat} {c : String} {fm : List D → Res D} (C : MethOk P w K mg base k c "__len__" 1 fm) (hk : k + 1 ≤ j) : LenOk P w K mg base j c fm := by
  obtain ⟨f, fd, ps, h1, h2, h3, h4, h5⟩ := C.ex
  exact ⟨_, fd, ps, k, hk, h2.at_, h2.fn, h3, h4⟩
theorem lens_nil {P : Program} {w : World} {K : Frag} {mg : Str → Option Value} {base : Heap} {j : Nat} : ∀ c fm, ([] : List (String × (List D → Res D))).lookup c = some fm → LenOk P w K mg base j c fm := fun c fm h => nomatch h
theorem lens_cons {P : Program} {w : World} {K : Frag} {mg : Str → Option Value} {base : Heap} {j : Nat} {c0 : String} {f0 : List D → Res D} {ms : List (String × (List D → Res D))} (h0 : LenOk P w K mg base j c0 f0) (h : ∀ c fm, ms.lookup c = some fm → LenOk P w K mg base j c fm) : ∀ c fm, ((c0, f0) :: ms).lookup c = some fm → LenOk P w K mg base j c fm := fun c fm q => by
  by_cases e : c = c0
  · subst e
    simp only [List.lookup_cons, beq_self_eq_true, Option.some.injEq] at q
    subst q
    exact h0
  · simp only [List.lookup_cons, beq_eq_false_iff_ne.mpr e] at q
    exact h c fm q
end
end Py
namespace Py
open PySem PySem.Spec PyProof.Rows L2
/-! ### methods, wherever the error goes -/
/-! ### statements that never go on -/
section
variable {fr : Rm} {X : Cx} {W : WX} {ow o1 oN oB : Ow} {st : Stmt} {u : SM}
def NoNx (u : SM) : Prop := ∀ e e', ¬ Res.leaf (.next e') (u e)
theorem nn_ret {m : EM} : NoNx (ret m) := fun e e' h => by
  obtain ⟨d, _, h⟩ := leaf_bind (show Res.leaf (Fl.next e') (m e >>= fun d => .ok (.ret d)) from h)
  cases h
theorem c_stop (hn : NoNx u) (h : PS X st (tS3 fr X.K W ow o1 oB u)) : PS X st (tS3 fr X.K W ow oN oB u) :=
  PS.of h fun D σ H ⟨A, H0, O, en, R, q⟩ => ⟨A, H0, O, en, R, q.imp (fun f l z => by
      cases f with
      | next e' => exact (hn en e' l).elim
      | ret d => exact z
      | brk e' => exact z
      | cnt e' => exact z) fun _ _ z => z⟩
end
end Py
/-! Lists of new lists, filled at drawn places. -/
namespace Py
open PySem L2
/-- lists of numbers, all of them new: where they stand -/
structure Nst (H : Hp) (a : Addr) (as : List Addr) (zss : List (List Int)) : Prop where
  out : H a = some (.lst (as.map V.ref))
  nd : as.Nodup
  no : a ∉ as
  len : as.length = zss.length
  inn : ∀ (k : Nat) (b : Addr) (zs : List Int), as[k]? = some b → zss[k]? = some zs → H b = some (.lst (zs.map V.int))
theorem Nst.same {H H' : Hp} {a : Addr} {as : List Addr} {zss : List (List Int)} (h : Nst H a as zss) (s : Same H H') : Nst H' a as zss :=
  ⟨s _ _ h.out, h.nd, h.no, h.len, fun k b zs h1 h2 => s _ _ (h.inn k b zs h1 h2)⟩
theorem repL_ints {K : Frag} {A : AS} {H : Hp} : ∀ zs : List Int, RepL K A H (zs.map D.int) (zs.map V.int)
  | [] => rfl
  | z :: zs => ⟨.int z, zs.map V.int, rfl, rfl, repL_ints zs⟩
theorem Nst.rep {K : Frag} {A : AS} {H : Hp} {a : Addr} {as : List Addr} {zss : List (List Int)} (h : Nst H a as zss) (na : ¬ A a) (nb : ∀ b ∈ as, ¬ A b) : Rep K A H (.lst (zss.map fun (zs : List Int) => D.lst (zs.map D.int))) (.ref a) := by
  have key : ∀ (as : List Addr) (zss : List (List Int)), as.length = zss.length → (∀ b ∈ as, ¬ A b) → (∀ (k : Nat) (b : Addr) (zs : List Int), as[k]? = some b → zss[k]? = some zs → H b = some (.lst (zs.map V.int))) → RepL K A H (zss.map fun (zs : List Int) => D.lst (zs.map D.int)) (as.map V.ref) := by
    intro as
    induction as with
    | nil =>
      intro zss hl _ _
      cases zss with
      | nil => rfl
      | cons z zs => simp at hl
    | cons b as ih =>
      intro zss hl hb hi
      cases zss with
      | nil => simp at hl
      | cons zs zss =>
        refine ⟨.ref b, as.map V.ref, rfl, ⟨b, _, rfl, hb b List.mem_cons_self, .inl (hi 0 b zs rfl rfl), repL_ints zs⟩, ih zss (by simpa using hl) (fun c hc => hb c (List.mem_cons_of_mem _ hc)) fun k c ws h1 h2 => hi (k + 1) c ws h1 h2⟩
  exact ⟨a, _, rfl, na, .inl h.out, key as zss h.len nb h.inn⟩
end Py
/-! .. filled by a loop. -/
namespace PySem
open Builtin
end PySem
/-! list(zip(*x)): zip over any number of lists and tuples of one length. -/
namespace Py
open PySem PySem.Spec PyProof.Rows L2
abbrev Col := Bool × Nat × Array Value
def refs (n0 n : Nat) : List Value := (List.range n).map fun m => Value.ref (n0 + m)
/-- a zip over columns at n0: f0, f1: what it knows of the tuple given out -/
structure ZAt (h : Heap) (n0 : Nat) (cs : List Col) (i : Nat → Nat) (f0 f1 : Value) : Prop where
  it : ∀ (m : Nat) (c : Col), cs[m]? = some c → IAt c.1 h (n0 + m) c.2.1 (i m)
  sq : ∀ (m : Nat) (c : Col), cs[m]? = some c → SAt c.1 h c.2.1 c.2.2 ∧ c.2.1 < n0
  ti : h.get? (n0 + cs.length) = some { cls := .type "tuple", data := .seq (refs n0 cs.length).toArray }
  ob : h.get? (n0 + cs.length + 2) = some { cls := .type "zip", data := .fields #[f0, f1, .bool false, .ref (n0 + cs.length), .ref (n0 + cs.length + 1)] }
theorem ZAt.up {h h' : Heap} {n0 : Nat} {cs : List Col} {i : Nat → Nat} {f0 f1 : Value} (z : ZAt h n0 cs i f0 f1) (k : ∀ a o, h.get? a = some o → h'.get? a = some o) : ZAt h' n0 cs i f0 f1 :=
  ⟨fun m c e => (z.it m c e).up (k _), fun m c e => ⟨(z.sq m c e).1.up (k _), (z.sq m c e).2⟩, k _ _ z.ti, k _ _ z.ob⟩
def TOAt (h : Heap) (n0 : Nat) (cs : List Col) : Prop := ∃ vs : Array Value, vs.size = cs.length ∧ h.get? (n0 + cs.length + 1) = some { cls := .type "tuple", data := .seq vs }
end Py
/-! A turn of a zip over any number of columns. -/
namespace Py
open PySem PySem.Spec PyProof.Rows L2
/-- outside the zip's own objects -/
def Off (n0 : Nat) (cs : List Col) (a : Nat) : Prop := a < n0 ∨ n0 + cs.length + 3 ≤ a
def Kp (n0 : Nat) (cs : List Col) (h h' : Heap) : Prop := ∀ (a : Nat) o, Off n0 cs a → h.get? a = some o → h'.get? a = some o
theorem Kp.refl {n0 : Nat} {cs : List Col} {h : Heap} : Kp n0 cs h h := fun _ _ _ e => e
end Py
/-! A zip over any number of columns: further turns, its end, next. -/
namespace Py
open PySem PySem.Spec PyProof.Rows L2
/-- a zip behind i turns; T: the tuple given out last -/
inductive ZSt (h : Heap) (n0 : Nat) (cs : List Col) (i : Nat) : Prop
  | fresh (z : ZAt h n0 cs (fun _ => i) .none (.bool false)) (to : TOAt h n0 cs)
  | held (T : Nat) (f : Bool) (z : ZAt h n0 cs (fun _ => i) (rawInt T) (.bool f)) (hT : ∃ o, h.get? T = some o) (off : Off n0 cs T)
section
variable {prog : Program} {w : World} {A : Around} {E : Value → Shared → Prop} {s : Shared}
theorem ZSt.ty {n0 i : Nat} {cs : List Col} (z : ZSt s.heap n0 cs i) : s.TypeIs (.ref (n0 + cs.length + 2)) "zip" := by
  cases z with
  | fresh z _ => exact ⟨_, z.ob, rfl⟩
  | held T f z _ _ => exact ⟨_, z.ob, rfl⟩
end
end Py
/-! list(z), z a zip just made. -/
namespace Py
open PySem PySem.Spec PyProof.Rows L2
theorem ZSt.up {h h' : Heap} {n0 : Nat} {cs : List Col} {i : Nat} (z : ZSt h n0 cs i) (k : ∀ a o, h.get? a = some o → h'.get? a = some o) : ZSt h' n0 cs i := by
  cases z with
  | fresh z to =>
    obtain ⟨vs, h1, h2⟩ := to
    exact .fresh (z.up k) ⟨vs, h1, k _ _ h2⟩
  | held T f z hT off =>
    obtain ⟨o, hT⟩ := hT
    exact .held T f (z.up k) ⟨o, k _ _ hT⟩ off
end Py
/-! list(zip(*x)) in the mirror; range with a step. -/
/-! A slice of a list is a new list. -/
/-! == by an own __eq__. -/
/-! sorted(xs) of numbers, of tuples of numbers and tuples. -/
/-! Draws. -/
namespace Py
open PySem PySem.Spec PyProof.Rows L2
theorem rep_ints_inv {K : Frag} {A : AS} {H : Hp} : ∀ {xs : List D} {is : List Int} {vs : List V}, allI xs = some is → RepL K A H xs vs → vs = is.map V.int
  | [], is, vs, e, r => by
    simp only [allI, Option.some.injEq] at e
    subst e
    simpa [RepL] using r
  | d :: xs, is, vs, e, r => by
    cases d <;> simp only [allI, reduceCtorEq] at e
    rename_i i
    cases h : allI xs with
    | none => rw [h] at e; cases e
    | some js =>
      rw [h] at e
      simp only [Option.map_some, Option.some.injEq] at e
      subst e
      simp only [RepL] at r
      obtain ⟨v, w, rfl, h1, h2⟩ := r
      rw [rep_ints_inv h h2]
      have h1' : v = .int i := h1
      rw [h1']
      rfl
theorem repW_cells {K : Frag} {A : AS} {H : Hp} {q : Nat × List Int} {v : V} (h : RepW K A H (.drw (.inr q)) v) : RepW K A H (.lst (q.2.map .int)) v := by
  obtain ⟨e, n, r⟩ := (by simpa only [RepW, Rep] using h : v = .ref q.1 ∧ ¬ A q.1 ∧ Rd H q.1 (.lst (q.2.map V.int)))
  exact ⟨q.1, _, e, r, repL_ints q.2⟩
section
variable {fr : Rm} {X : Cx} {W : WX} {A : AS} {H0 : Base} {ow oN oB : Ow} {a b c e : Expr} {es : List Expr} {m ma mb mc : EM} {am : AM} {pos : Pos} {body : List Stmt} {t : TS}
theorem y_idxC (hu : X.A.units + 16 < cLine) : IxR X (r2 X.K oidxC) := by
  intro value slice pins s σ H x y v u Q I rx ry ⟨A, d1, d2, d, h1, h2, ha, e, k⟩ hs
  cases d1 with
  | drw q =>
    cases q with
    | inl _ => cases e
    | inr q => exact y_idx hu value slice pins s σ H x y v u Q I rx ry ⟨A, _, d2, d, repW_cells h1, h2, ha, e, k⟩ hs
  | _ => cases e
theorem Ctx.ixC {X : Cx} {W : WX} {k : Nat} (T : Ctx X W k) : IxR X (r2 X.K oidxC) := y_idxC (by have := T.hr.un; omega)
theorem n_idxC : NoEx2 oidxC := fun x y c fs => by
  cases x with
  | drw q =>
    cases q with
    | inl _ => rfl
    | inr q => exact n_idx _ _ () ()
  | _ => rfl
theorem v_lenC : CallR X (.builtin "len") (c1 X.K blenC) := fun pins s σ H xs us Q I rx ⟨x, e0, A, d1, d, h1, ha, e, k⟩ => by
  cases d1 with
  | drw q =>
    cases q with
    | inl _ => cases e
    | inr q => exact v_len pins s σ H xs us Q I rx ⟨x, e0, A, _, d, repW_cells h1, ha, e, k⟩
  | _ => cases e
theorem n_lenC : NoEx1 blenC := fun x c fs => by
  cases x with
  | drw q =>
    cases q with
    | inl _ => rfl
    | inr q => exact n_len (.lst (q.2.map .int)) () ()
  | _ => rfl
theorem x_idxC (hi : IxR X (r2 X.K oidxC)) (ha : PE X a (tW X.K W ow ma)) (hb : PE X b (tW X.K W ow mb)) (hs : PlainIx b := by exact fun _ _ => rfl) : PE X (.Subscript a b pos) (tE X.K W ow (bin oidxC ma mb)) :=
  PE.of (pe_ix hi ha hb hs) fun _ _ _ h => two_of n_idxC h
theorem s_retB (h : PE X a (tE X.K W ow m)) (h0 : ow 0 = true) : PS X (.Return (some a) pos) (tS3 .lent X.K W ow oN oB (retB m)) :=
  PS.of (ps_ret h) fun D σ H ⟨A, H0, O, en, R, q⟩ => ⟨A, H0, O, en, R, ((Out.bind q).se R).good fun d q1 v H1 s1 r1 => by
    obtain ⟨l, hl, q2⟩ := var_ok q1
    obtain ⟨b, p1, p2, p3⟩ := (R.to s1).owns 0 l hl h0
    have q3 : EndOk3 .lent X.K A H0 oN oB O H D (.ret (.tup [d, l])) := q2
    exact q3 v H1 (R.same.trans s1) ⟨d, l, rfl, Rep.move (Mv.less fun b => .inl) _ _ r1, fun x hx => by
      have z := (R.to s1).pin x hx
      rw [z] at p1
      cases p1
      exact p3.move (Mv.less fun b => .inl) rfl⟩⟩
/-! ### a pool is opened, closed -/
theorem Inv.opened {pins : List (Addr × Obj)} {σ : L2.St} {H : Hp} {s : Shared} {k : Bool} {x a0 : Addr} (I : Inv X pins σ H s) (h : H x = some (poolO k x a0)) :
    ∃ vs, PoolV k a0 vs ∧ Inv X pins σ (upd H x (.lst vs)) s := by
  obtain ⟨⟨vs, its, n, hp, hv, hg⟩, ho, _⟩ := I.hok x _ h
  refine ⟨vs, hp, ?_⟩
  have hl : vs.length ≤ sizeLine := by
    cases k
    · obtain ⟨p, c, m, rfl, _⟩ := hp
      exact (by decide : 4 ≤ sizeLine)
    · obtain ⟨p, c, j, m, rfl, _⟩ := hp
      exact (by decide : 5 ≤ sizeLine)
  exact L2.Inv.write (e := x) (o := .lst vs) (t' := s.toks) I (by rw [h]; exact True.intro) (.inl rfl) (fun b u _ q => q) ⟨_, hg⟩ ⟨hl, its, n, hv, hg⟩
theorem Inv.closed {pins : List (Addr × Obj)} {σ : L2.St} {H : Hp} {s : Shared} {k : Bool} {x a0 : Addr} {vs : List V} (I : Inv X pins σ H s) (h : H x = some (.lst vs)) (hp : PoolV k a0 vs) :
    Inv X pins σ (upd H x (poolO k x a0)) s := by
  obtain ⟨hl, its, n, hv, hg⟩ := I.hok x _ h
  refine L2.Inv.write (e := x) (o := poolO k x a0) (t' := s.toks) I (by rw [h]; exact True.intro) (.inl rfl) (fun b u _ q => q) ⟨_, hg⟩ ⟨⟨vs, its, n, hp, hv, hg⟩, ⟨_, hg⟩, ?_⟩
  rintro h1 h2 ⟨vs', its', n', hp', hv', hg'⟩ kk
  exact ⟨vs', its', n', hp', hv', kk _ hg'⟩
def tOpen (t : TS) : TS := fun D σ H => ∃ k x a0, H x = some (poolO k x a0) ∧ ∀ vs, PoolV k a0 vs → t { nx := fun _ _ => False, rt := fun v H' => ∃ vs', PoolV k a0 vs' ∧ H' x = some (.lst vs') ∧ D.rt v (upd H' x (poolO k x a0)) } σ (upd H x (.lst vs))
theorem pss_open (h : PSs X body t) : PSs X body (tOpen t) := ⟨fun pins s σ H D I ⟨k, x, a0, hx, q⟩ => by
  obtain ⟨vs, hp, J⟩ := Inv.opened I hx
  refine thn (h.run pins s σ _ _ J (q vs hp)) fun f s' z => ?_
  cases f with
  | next => obtain ⟨_, _, _, z⟩ := z; exact z.elim
  | brk => obtain ⟨_, _, _, z⟩ := z; exact z.elim
  | cont => obtain ⟨_, _, _, z⟩ := z; exact z.elim
  | ret u =>
    obtain ⟨v, σ', H', I', r', vs', p', e', d'⟩ := z
    exact ⟨v, σ', _, Inv.closed I' e' p', r', d'⟩⟩
theorem pool_v {K : Frag} {k : Bool} {A : AS} {H : Hp} {a0 : Nat} {xs : List Int} {ds : List D} {vs : List V} (h : DV k a0 xs ds) (r : RepL K A H ds vs) : PoolV k a0 vs := by
  cases k
  · obtain ⟨p, c, m, rfl, h1, h2, h3⟩ := h
    simp only [RepL, Rep] at r
    obtain ⟨v0, r0, rfl, ⟨rfl, _⟩, v1, r1, rfl, rfl, v2, r2, rfl, rfl, v3, r3, rfl, rfl, rfl⟩ := r
    exact ⟨p, c, m, rfl, h1, h2, h3⟩
  · obtain ⟨p, c, j, m, rfl, h1, h2, h3⟩ := h
    simp only [RepL, Rep] at r
    obtain ⟨v0, r0, rfl, ⟨rfl, _⟩, v1, r1, rfl, rfl, v2, r2, rfl, rfl, v3, r3, rfl, rfl, v4, r4, rfl, rfl, rfl⟩ := r
    exact ⟨p, c, j, m, rfl, h1, h2, h3⟩
theorem pool_d {K : Frag} {k : Bool} {A : AS} {H : Hp} {a0 : Nat} {xs : List Int} {vs : List V} (h : PoolV k a0 vs) (na : ¬ A a0) (r : Rd H a0 (.lst (xs.map V.int))) : ∃ ds, DV k a0 xs ds ∧ RepL K A H ds vs := by
  cases k
  · obtain ⟨p, c, m, rfl, h1, h2, h3⟩ := h
    refine ⟨_, ⟨p, c, m, rfl, h1, h2, h3⟩, ?_⟩
    simp only [RepL, Rep]
    exact ⟨_, _, rfl, ⟨rfl, na, r⟩, _, _, rfl, rfl, _, _, rfl, rfl, _, _, rfl, rfl, rfl⟩
  · obtain ⟨p, c, j, m, rfl, h1, h2, h3⟩ := h
    refine ⟨_, ⟨p, c, j, m, rfl, h1, h2, h3⟩, ?_⟩
    simp only [RepL, Rep]
    exact ⟨_, _, rfl, ⟨rfl, na, r⟩, _, _, rfl, rfl, _, _, rfl, rfl, _, _, rfl, rfl, _, _, rfl, rfl, rfl⟩
end
theorem ar_pick {k : Bool} : Ar 2 (pickF k) := ⟨fun ds h => by
  match ds, h with
  | [], _ => rfl
  | [_], _ => simp [pickF]
  | _ :: _ :: _ :: _, _ => simp [pickF]
  | [a, b], h => exact absurd rfl h⟩
theorem rd_ne {H : Hp} {a0 x : Addr} {k : Bool} {vs : List V} (h : H x = some (poolO k x a0)) (r : Rd H a0 (.lst vs)) : a0 ≠ x := fun e => by
  subst e
  rcases r with r | ⟨o, r⟩ <;> (rw [h] at r; cases r)
theorem Rd.upd {H : Hp} {a x : Addr} {u o : HO} (r : Rd H a u) (h : a ≠ x) : Rd (upd H x o) a u := by
  rcases r with r | ⟨q, r⟩
  · exact .inl (by rw [upd_ne h]; exact r)
  · exact .inr ⟨q, by rw [upd_ne h]; exact r⟩
section
variable {P : Program} {w : World} {K : Frag} {mg : Str → Option Value} {base : Heap} {k : Nat} {oN oB : Ow} {m : SM} {f : Addr} {N ps : List Str} {n : Nat}
theorem draw_start {kk : Bool} {E : XK} {vs : List V} {H : Hp} {Q : VK} (hN : 2 ≤ N.length) (hD : Draws kk N.length m) (h : spM K 2 (pickF kk) vs H Q E) :
    tOpen (tS3 .lent K (WD E) ⟨fun i => i == 0, none⟩ oN oB m) { nx := fun _ H' => Q .non H', rt := Q } (L2.start N vs) H := by
  obtain ⟨A, ds, r, hl, ha, q⟩ := h
  match ds, hl with
  | [d1, d2], _ =>
  cases d1 with
  | drw z =>
    cases z with
    | inl q0 =>
      cases d2 with
      | int many =>
        simp only [pickF] at q
        split at q
        · rename_i hc
          obtain ⟨rfl, h1, h2⟩ := hc
          simp only [RepL, Rep] at r
          obtain ⟨v0, r0, rfl, ⟨x, a0, xs, rfl, nx, hx, na, rd⟩, v1, r1, rfl, rfl, rfl⟩ := r
          refine ⟨q0, x, a0, hx, fun vs hv => ?_⟩
          have hne := rd_ne hx rd
          have nO : ∀ i y, (if i = 0 then some x else none) = some y → i = 0 ∧ y = x := fun i y h => by
            by_cases hi : i = 0
            · rw [if_pos hi] at h
              cases h
              exact ⟨hi, rfl⟩
            · rw [if_neg hi] at h
              cases h
          have nAO : ¬ AO A (fun i => if i = 0 then some x else none) a0 := fun z => z.elim na fun ⟨i, z⟩ => hne (nO i a0 z).2
          obtain ⟨ds, hds, rds⟩ := pool_d (K := K) (A := AO A fun i => if i = 0 then some x else none) (H := upd H x (.lst vs)) hv nAO (Rd.upd rd hne)
          obtain ⟨rr, ds', hb, hr1, hr2, hds'⟩ := hD a0 xs ds many hds h1 h2
          refine ⟨A, ⟨fun b => if b = x then none else H b, some x⟩, fun i => if i = 0 then some x else none, [some (.lst ds), some (.int many)] ++ List.replicate (N.length - 2) none, ?_, ?_⟩
          · refine ⟨?_, fun b hb => ?_, fun b o e => ?_, fun i d g1 g2 => ?_, fun i d g1 g2 => ?_, fun i y g => ?_, fun i j y g g' => (nO i y g).1.trans (nO j y g').1.symm, fun y g => by cases g; rfl, XFact.none rfl⟩
            · unfold L2.start
              simp only [List.length_append, List.length_map, List.length_replicate, List.length_cons, List.length_nil]
            · by_cases e : b = x
              · rw [e, upd_same]
                exact fun z => nomatch z
              · rw [upd_ne e]
                exact ha b hb
            · have e : (if b = x then none else H b) = some o := e
              by_cases e2 : b = x
              · rw [if_pos e2] at e
                cases e
              · rw [if_neg e2] at e
                rw [upd_ne e2]
                exact e
            · match i with
              | 0 => exact absurd g2 (by simp)
              | 1 =>
                simp at g1
                subst g1
                exact ⟨_, start_get (i := 1) rfl, rfl⟩
              | i + 2 =>
                rw [List.getElem?_append_right (by simp), List.getElem?_replicate] at g1
                split at g1 <;> cases g1
            · match i with
              | 0 =>
                simp at g1
                subst g1
                exact ⟨x, rfl, start_get (i := 0) rfl, vs, upd_same, rds⟩
              | i + 1 => exact absurd g2 (by simp)
            · obtain ⟨rfl, rfl⟩ := nO i y g
              exact ⟨if_pos rfl, by rw [upd_same]; exact fun z => (nomatch z), nx⟩
          · rw [hb]
            intro v H' s' ⟨rv, l, e, g1, g2⟩
            cases e
            obtain ⟨vs', e1, rl⟩ := g2 x rfl
            refine ⟨vs', pool_v hds' rl, e1, ?_⟩
            have hv : v = .int rr := g1
            subst hv
            refine q rr.toNat (by omega) (.int rr) _ (fun b o e => ?_) (by
              have : (rr.toNat : Int) = rr := by omega
              show V.int rr = V.int (rr.toNat : Int)
              rw [this])
            by_cases e2 : b = x
            · subst e2
              rw [hx] at e
              cases e
              exact upd_same
            · rw [upd_ne e2]
              exact s' b o (by show (if b = x then none else H b) = some o; rw [if_neg e2]; exact e)
        · exact q.elim
      | _ => simp only [pickF] at q; exact q.elim
    | inr _ => cases d2 <;> (simp only [pickF] at q; exact q.elim)
  | _ => cases d2 <;> (simp only [pickF] at q; exact q.elim)
theorem def_okP {d : He.DefD} {kk : Bool} (F : ∃ fd, FunD K d.name d.qual d.params d.body d.scope [] [] f fd) (g : mg d.name = some (.ref f)) (S : FnScope N ps d.scope) (hpl : ps.length = 2) (hnl : N.length = n) (hD : Draws kk n m)
    (hbind : ∀ (kV doc pm : Value) (an : Option Addr) (cdv ct : Value) (us : List Value), us.length = ps.length → bindArgs (PySem.W.fnOf d.name d.qual d.params d.body d.scope .none kV doc pm an cdv ct) ⟨us, []⟩ = pure (ps.zip us))
    (hb : ∀ (cdv : Value) (A : Around) (outer : List PySem.Env) (s : Shared) (H : Hp) (E : XK), Ctx (cxOf (L2N.CX P w) P w K mg base N d.qual d.scope f cdv A outer s H E) (WD E) k →
      PSs (cxOf (L2N.CX P w) P w K mg base N d.qual d.scope f cdv A outer s H E) d.body (tS3 .lent K (WD E) ⟨fun i => i == 0, none⟩ oN oB m)) : CallOk P w K mg base (k + 1) d.name d ps 2 (pickF kk) := by
  obtain ⟨fd, F⟩ := F
  subst hnl
  refine ⟨f, fd, g, F.kp, FunD.bindsN F hbind, ?_, ar_pick, F⟩
  refine F.ok S (fun vs H Q E ⟨A, ds, r, h, _⟩ => by rw [hpl]; exact r.length.symm.trans h) (fun cdv A outer s H vs Q E hr h => ?_)
  exact ⟨_, pss_open (hb cdv A outer s H E ⟨rfl, L2N.takes_of rfl rfl rfl rfl, passes_of rfl, hr, S.nd⟩), draw_start (by rw [← hpl]; exact pre_le S.pre) hD h⟩
end
/-! ### a new pool -/
def tPool (t : TE) : TE := fun σ H Q => t σ H fun v H' => ∃ k x a0 vs, v = .ref x ∧ H' x = some (.lst vs) ∧ PoolV k a0 vs ∧ Q v (upd H' x (poolO k x a0))
section
variable {X : Cx} {W : WX} {ow : Ow} {e : Expr} {m : EM}
theorem pe_pool {t : TE} (h : PE X e t) : PE X e (tPool t) := ⟨fun pins s σ H Q I q => thn (h.run pins s σ H _ I q) fun u s' ⟨v, H', I', r', k, x, a0, vs, e1, e2, e3, e4⟩ => ⟨v, _, Inv.closed I' e2 e3, r', e4⟩⟩
theorem pool_end {K : Frag} {A : AS} {O : OW} {H H' : Hp} {Q : VK} {a : Addr} {k : Bool} {xs : List D} {vs : List V} (h0 : ∀ b, AO A O b → H b ≠ none) (n : H a = none) (s : Same H H') (e : H' a = some (.lst vs)) (hx : (allI xs).isSome)
    (hr : ∃ a0, (¬ AO A O a0 ∧ a0 ≠ a) ∧ (∃ ws, Rd H' a0 (.lst ws) ∧ RepL K (fun b => AO A O b ∨ b = a) H' xs ws) ∧ PoolV k a0 vs) (q : ∀ v H2, Same H H2 → Rep K (AO A O) H2 (.drw (.inl k)) v → Q v H2) :
    ∃ k x a0 vs, V.ref a = .ref x ∧ H' x = some (.lst vs) ∧ PoolV k a0 vs ∧ Q (.ref a) (upd H' x (poolO k x a0)) := by
  obtain ⟨a0, ⟨h1, h2⟩, ⟨ws, h3, h4⟩, h5⟩ := hr
  refine ⟨k, a, a0, vs, rfl, e, h5, q _ _ (fun b o g => ?_) ?_⟩
  · rw [upd_ne (fun z => by rw [z, n] at g; cases g)]
    exact s b o g
  · obtain ⟨is, his⟩ := Option.isSome_iff_exists.mp hx
    have hw := rep_ints_inv his h4
    subst hw
    simp only [Rep]
    exact ⟨a, a0, is, rfl, fun z => h0 a z n, upd_same, h1, Rd.upd h3 h2⟩
theorem x_pool (h : PE X e (tF X.K W ow m)) : PE X e (tE X.K W ow (mkp m)) :=
  PE.of (pe_pool h) fun σ H Q ⟨A, H0, O, en, R, q⟩ => ⟨A, H0, O, en, R, (Out.bind q).good fun d q1 a H' n s o => by
    rcases mkpF_inv d with hd | ⟨xs, p, c, u, rfl, hc, hd⟩ | ⟨xs, p, c, j, u, rfl, hc, hd⟩
    · rw [hd] at q1
      exact q1.elim
    · rw [hd] at q1
      obtain ⟨vs, e1, r⟩ := o
      simp only [RepL, Rep] at r
      obtain ⟨v0, r0, rfl, ⟨a0, ws, rfl, na, rd, rl⟩, v1, r1, rfl, rfl, v2, r2, rfl, rfl, v3, r3, rfl, rfl, rfl⟩ := r
      exact pool_end (k := false) R.there n s e1 hc.1 ⟨a0, ⟨fun z => na (.inl z), fun z => na (.inr z)⟩, ⟨ws, rd, rl⟩, ⟨p, c, u, rfl, hc.2⟩⟩ q1
    · rw [hd] at q1
      obtain ⟨vs, e1, r⟩ := o
      simp only [RepL, Rep] at r
      obtain ⟨v0, r0, rfl, ⟨a0, ws, rfl, na, rd, rl⟩, v1, r1, rfl, rfl, v2, r2, rfl, rfl, v3, r3, rfl, rfl, v4, r4, rfl, rfl, rfl⟩ := r
      exact pool_end (k := true) R.there n s e1 hc.1 ⟨a0, ⟨fun z => na (.inl z), fun z => na (.inr z)⟩, ⟨ws, rd, rl⟩, ⟨p, c, j, u, rfl, hc.2⟩⟩ q1⟩
end
theorem always_out {α : Type} {P : α → Prop} {r : Res α} {good : α → Prop} {bad : String → List (String × Py.D) → Prop} (h : Always P r) (k : ∀ a, P a → good a) : Out r good bad := by
  induction r with
  | ok a => exact k a h
  | exc c fs => exact h.elim
  | stuck => exact h.elim
  | pick n f ih => exact fun i hi => ih i (h i hi)
/-- whatever is drawn, the law holds -/
theorem sp_lawA {K : Frag} {fm : List Py.D → Res Py.D} (hL : noL K = true) {H : Hp} {a : Addr} {ns : List Int} (hm : Always (fun d => d = .bl true) (fm [.lst (ns.map .int)])) (hS : SqL K H a (ns.map V.int)) :
    spM K 1 fm [.ref a] H (fun v _ => v = .bl true) fun _ _ _ => False := by
  refine ⟨fun _ => False, [.lst (ns.map .int)], ?_, rfl, fun _ h => h.elim, always_out hm fun d e => ?_⟩
  · simp only [RepL]
    refine ⟨_, _, rfl, ?_, rfl⟩
    simp only [Rep]
    exact ⟨a, _, rfl, id, sqL_rd hL hS, ints_rep ns⟩
  · subst e
    exact fun v H' _ r => r
end Py
/-! Defs that give back a pair of new lists. -/
namespace Py
open PySem L2
theorem owS_add2 {l l' : List Nat} {i k : Nat} (h : (l'.all fun j => j == k || (j == i || ownS l j)) = true ∧ ownS l' i = true ∧ ownS l' k = true ∧ (l.all fun j => ownS l' j) = true) : ∀ j, ownS l' j = (j == k || (j == i || ownS l j)) := fun j => by
  obtain ⟨h1, h2, h2', h3⟩ := h
  cases e : ownS l' j with
  | true => exact (List.all_eq_true.mp h1 j (owS_mem e)).symm
  | false =>
    cases e2 : (j == k || (j == i || ownS l j)) with
    | false => rfl
    | true =>
      simp only [Bool.or_eq_true, beq_iff_eq] at e2
      rcases e2 with e2 | e2 | e2
      · rw [e2, h2'] at e
        cases e
      · rw [e2, h2] at e
        cases e
      · rw [List.all_eq_true.mp h3 j (owS_mem e2)] at e
        cases e
section
variable {X : Cx} {W : WX} {ow oN oB : Ow} {a b : Expr} {pos tp : Pos}
theorem upd_same2 {H : Hp} {p : Addr} {o : HO} (h : H p = none) : Same H (upd H p o) := fun b u e => by
  rw [upd_ne (fun z => by rw [z, h] at e; cases e)]
  exact e
/-- return (x, y), two names' own objects -/
theorem s_ret2 {i j : Nat} {x1} (ha : PE X a (tVar i)) (hb : PE X b (tVar j)) (hi : ow i = true) (hj : ow j = true) (hij : i ≠ j)
    (s1 : starEach [b] X.env = (false, eval b X.env) :: starEach [] X.env := by rfl) (s2 : starEach [a, b] X.env = (false, eval a X.env) :: starEach [b] X.env := by rfl) :
    PS X (.Return (some (.Tuple [a, b] x1 tp)) pos) (tS3 .two X.K W ow oN oB (ret (tupE (argC (var i) (argC (var j) argN))))) :=
  PS.of (ps_ret (pe_tup (pa_cons ha (pa_cons hb pa_nil s1) s2))) fun D σ H ⟨A, H0, O, en, R, q⟩ => by
    have q0 : Out ((argC (var i) (argC (var j) argN) en >>= fun xs => chk xs.length (.tup xs)) >>= fun d => Res.ok (Fl.ret d)) _ (badS X.K W A H0) := q
    obtain ⟨x, hx, q1⟩ := var_ok (show Out (var i en >>= fun x => argC (var j) argN en >>= fun xs => Res.ok (x :: xs)) _ _ from Out.bind (Out.bind q0))
    obtain ⟨y, hy, q2⟩ := var_ok (show Out (var j en >>= fun x => Res.ok ([] : List Py.D) >>= fun xs => Res.ok (x :: xs)) _ _ from Out.bind q1)
    have q3 : EndOk3 .two X.K A H0 oN oB O H D (.ret (.tup [x, y])) := q2
    obtain ⟨b1, p1, p2, p3⟩ := R.owns i x hx hi
    obtain ⟨b2, r1, r2, r3⟩ := R.owns j y hy hj
    have hbc : b1 ≠ b2 := fun z => hij (R.inj i j b1 p1 (by rw [z]; exact r1))
    refine ⟨.ref b1, p2, .ref b2, r2, (by decide : 2 ≤ sizeLine), fun p hp => ?_⟩
    have sm := upd_same2 (o := .tup [.ref b1, .ref b2]) hp
    have mv : Mv (AO A O) H (fun z => (A z ∨ z = b1) ∨ z = b2) (upd H p (.tup [.ref b1, .ref b2])) := ⟨fun z hz => by
      rcases hz with (hz | hz) | hz
      · exact .inl (.inl hz)
      · exact .inl (.inr ⟨i, by rw [hz]; exact p1⟩)
      · exact .inl (.inr ⟨j, by rw [hz]; exact r1⟩), fun z o e _ => sm z o e⟩
    have kp : ∀ z, H z ≠ none → upd H p (.tup [.ref b1, .ref b2]) z = H z := fun z hz => upd_ne fun e => hz (by rw [e]; exact hp)
    exact q3 (.ref p) _ (R.same.trans sm) ⟨p, b1, b2, x, y, rfl, rfl, .inl (.inl upd_same), hbc, (R.fresh i b1 p1).1, (R.fresh j b2 r1).1,
      p3.move mv (kp _ (R.fresh i b1 p1).2.1), r3.move mv (kp _ (R.fresh j b2 r1).2.1)⟩
end
def spT (K : Frag) (p : Nat) (m : List D → Res D) : Sp := fun vs H Q E => ∃ A ds, RepL K A H ds vs ∧ ds.length = p ∧ (∀ a, A a → H a ≠ none) ∧
  Out (m ds) (fun d => (d = .non → ∀ H', Same H H' → Q .non H') ∧ ∀ a b c x y H', d = .tup [x, y] → SqT K H' a [.ref b, .ref c] → b ≠ c → H b = none → H c = none → Same H H' → OwnAt K (fun z => (A z ∨ z = b) ∨ z = c) H' b x → OwnAt K (fun z => (A z ∨ z = b) ∨ z = c) H' c y → Q (.ref a) H') (fun c fs => ∀ da H' fvs, Same H H' → H' da = some (.xd fvs) → RepF K A H' fs fvs → E (.ref (ca K c)) (some da) H')
theorem spT_le {K : Frag} {p : Nat} {m : List D → Res D} {vs : List V} {H : Hp} {Q : VK} {E : XK} (h : spM K p m vs H Q E) : spT K p m vs H Q E := by
  obtain ⟨A, ds, r, hl, ha, q⟩ := h
  refine ⟨A, ds, r, hl, ha, q.good fun d k => ⟨fun e H' s => ?_, fun a b c x y H' e1 e2 e3 e4 e5 s o1 o2 => k (.ref a) H' s ?_⟩⟩
  · subst e
    exact k .non H' s rfl
  · subst e1
    have nb : ¬ A b := fun z => ha b z e4
    have nc : ¬ A c := fun z => ha c z e5
    have mv : Mv (fun z => (A z ∨ z = b) ∨ z = c) H' A H' := Mv.less fun b x => .inl (.inl x)
    simp only [Rep, RepL]
    exact ⟨a, _, rfl, e2, _, _, rfl, o1.rep mv nb, _, _, rfl, o2.rep mv nc, rfl⟩
section
variable {P : Program} {w : World} {K : Frag} {mg : Str → Option Value} {base : Heap} {name qual : Str} {params : Arguments} {body : List Stmt} {scope : Scope} {dvs : List V} {kws : List (Str × V)} {f : Addr} {fd : FuncData} {N ps : List Str} {k : Nat} {ow oN oB : Ow} {m : SM}
theorem fn_okT (F : FunD K name qual params body scope dvs kws f fd) (S : FnScope N ps scope) (hx : ow.x = none) (hp : ∀ i, i < ps.length → ow i = false)
    (hb : ∀ (cdv : Value) (A : Around) (outer : List PySem.Env) (s : Shared) (H : Hp) (E : XK), Ctx (cxOf (L2N.CX P w) P w K mg base N qual scope f cdv A outer s H E) (WD E) k →
      PSs (cxOf (L2N.CX P w) P w K mg base N qual scope f cdv A outer s H E) body (tS3 .two K (WD E) ow oN oB m)) :
    FnOk P w K mg base (L2N.CX P w) (k + 1) f fd ps (spT K ps.length (fn ps.length N.length m)) := by
  refine F.ok S (fun vs H Q E ⟨A, ds, r, h, _⟩ => r.length.symm.trans h) (fun cdv A outer s H vs Q E hr h => ?_)
  obtain ⟨AV, ds, r, hl, ha, q⟩ := h
  refine ⟨tS3 .two K (WD E) ow oN oB m, hb cdv A outer s H E ⟨rfl, L2N.takes_of rfl rfl rfl rfl, passes_of rfl, hr, S.nd⟩, AV, ⟨H, none⟩, fun _ => none, ds.map some ++ List.replicate (N.length - ps.length) none, ?_, ?_⟩
  · have hlv := r.length
    have hN : ps.length ≤ N.length := by
      have := S.pre
      have h2 := congrArg List.length this
      rw [List.length_take] at h2
      omega
    refine ⟨?_, ha, Same.refl H, fun i d h1 h2 => ?_, fun i d h1 h2 => ?_, fun i a h => (nomatch h), fun i j a h => (nomatch h), fun a h => (nomatch h), XFact.none hx⟩
    · unfold L2.start
      simp only [List.length_append, List.length_map, List.length_replicate]
      omega
    · by_cases hi : i < ds.length
      · rw [List.getElem?_append_left (by simpa using hi), List.getElem?_map, List.getElem?_eq_getElem hi] at h1
        simp only [Option.map_some, Option.some.injEq] at h1
        subst h1
        obtain ⟨v, hv, rv⟩ := r.get (List.getElem?_eq_getElem hi)
        exact ⟨v, start_get hv, Rep.move (Mv.less fun b hb => hb.elim id fun ⟨_, z⟩ => nomatch z) _ _ rv⟩
      · rw [List.getElem?_append_right (by simpa using hi)] at h1
        rw [List.getElem?_replicate] at h1
        split at h1 <;> cases h1
    · by_cases hi : i < ds.length
      · rw [hp i (by omega)] at h2
        cases h2
      · rw [List.getElem?_append_right (by simpa using hi)] at h1
        rw [List.getElem?_replicate] at h1
        split at h1 <;> cases h1
  · unfold fn at q
    rw [if_pos hl] at q
    refine (Out.bind q).imp (fun fl _ q => ?_) fun c fs q => ?_
    · cases fl with
      | next e' => exact fun O' σ' H' R' _ => q.1 rfl H' R'.same
      | ret d =>
        refine fun v H' s' ⟨a, b, c, x, y, e1, e2, e3, e4, e5, e6, o1, o2⟩ => ?_
        rw [e1]
        exact q.2 a b c x y H' e2 e3 e4 e5 e6 s' o1 o2
      | brk e' => exact q.elim
      | cnt e' => exact q.elim
    · exact fun σ' da H' fvs s' q' r' => q da H' fvs s' q' r'
end
/-- the name x calls a def that gives back a pair of new lists -/
def CallT (P : Program) (w : World) (K : Frag) (mg : Str → Option Value) (base : Heap) (k : Nat) (x : Str) (d : He.DefD) (ps : List Str) (n : Nat) (fm : List D → Res D) : Prop := ∃ f fd, mg x = some (.ref f) ∧ PySem.W.keepIn K (.ref f) = true ∧ Binds K fd ps [] ∧ FnOk P w K mg base (L2N.CX P w) k f fd ps (spT K n fm) ∧ Ar n fm ∧ FunD K d.name d.qual d.params d.body d.scope [] [] f fd
theorem CallT.le {P : Program} {w : World} {K : Frag} {mg : Str → Option Value} {base : Heap} {k : Nat} {x : Str} {d : He.DefD} {ps : List Str} {n : Nat} {fm : List D → Res D} (C : CallT P w K mg base k x d ps n fm) : CallOk P w K mg base k x d ps n fm := by
  obtain ⟨f, fd, h1, h2, h3, h4, h5⟩ := C
  exact ⟨f, fd, h1, h2, h3, h4.imp fun _ _ _ _ z => spT_le z, h5⟩
section
variable {P : Program} {w : World} {K : Frag} {mg : Str → Option Value} {base : Heap} {k : Nat} {ow oN oB : Ow} {m : SM} {f : Addr} {N ps : List Str} {p n : Nat}
theorem def_okT {d : He.DefD} (F : ∃ fd, FunD K d.name d.qual d.params d.body d.scope [] [] f fd) (g : mg d.name = some (.ref f)) (S : FnScope N ps d.scope) (hpl : ps.length = p) (hnl : N.length = n) (hp : ∀ i, i < p → ow i = false)
    (hbind : ∀ (kV doc pm : Value) (an : Option Addr) (cdv ct : Value) (us : List Value), us.length = ps.length → bindArgs (PySem.W.fnOf d.name d.qual d.params d.body d.scope .none kV doc pm an cdv ct) ⟨us, []⟩ = pure (ps.zip us))
    (hb : ∀ (cdv : Value) (A : Around) (outer : List PySem.Env) (s : Shared) (H : Hp) (E : XK), Ctx (cxOf (L2N.CX P w) P w K mg base N d.qual d.scope f cdv A outer s H E) (WD E) k →
      PSs (cxOf (L2N.CX P w) P w K mg base N d.qual d.scope f cdv A outer s H E) d.body (tS3 .two K (WD E) ow oN oB m)) (hx : ow.x = none := by rfl) : CallT P w K mg base (k + 1) d.name d ps p (fn p n m) := by
  obtain ⟨fd, F⟩ := F
  subst hpl hnl
  exact ⟨f, fd, g, F.kp, FunD.bindsN F hbind, fn_okT F S hx hp hb, ar_fn, F⟩
end
/-- a pair of new lists -/
def tF2 (K : Frag) (W : WX) (ow : Ow) (m : EM) : TE := fun σ H Q => ∃ A H0 O e, ER K A H0 ow O σ H e ∧
  Out (m e) (fun d => ∀ a b c x y H', d = .tup [x, y] → SqT K H' a [.ref b, .ref c] → b ≠ c → H b = none → H c = none → Same H H' → OwnAt K (fun z => (AO A O z ∨ z = b) ∨ z = c) H' b x → OwnAt K (fun z => (AO A O z ∨ z = b) ∨ z = c) H' c y → Q (.ref a) H') (badE K W A O σ H)
section
variable {X : Cx} {W : WX} {ow oN oB : Ow} {e : Expr} {es : List Expr} {am : AM} {m : EM} {pos p : Pos} {k j n : Nat} {x : Str} {fm : List D → Res D} {d : He.DefD} {ps : List Str} {fr : Rm} {st : Stmt}
/-- f(..), what comes back is new -/
theorem f_own2 (T : Ctx X W j) (C : CallT X.prog X.w X.K X.mg X.base k x d ps n fm) (hk : k ≤ j) (hg : Gl X x) (ha : PA X (e :: es) (aE X.K W ow am)) (hdb : (x == ("__debug__" : Str)) = false := by decide)
    (he : starEach (e :: es) X.env = (false, eval e X.env) :: starEach es X.env := by rfl) (hpl : (backTo pos (starEach es X.env)).any (·.1) = false := by rfl) : PE X (.Call (.Name x p) (e :: es) [] pos) (tF2 X.K W ow (callF fm am)) := by
  obtain ⟨f, fd, h1, h2, h3, h4, hn, _⟩ := C
  refine PE.of (pe_callSD (E := WE W) h4 (T.hr.mono hk) hg h1 h2 h3 .nil (fun σ => L2N.passAt T.tk σ) ha hdb he hpl) fun σ H Q ⟨A, H0, O, en, R, q⟩ => ?_
  refine ⟨A, H0, O, en, R, (Out.bind q).good fun ds q1 vs H1 s1 r1 => ?_⟩
  dsimp only
  rw [List.append_nil]
  have old : ∀ z, H1 z = none → H z = none := fun z n => by
    cases e : H z with
    | none => rfl
    | some o =>
      rw [s1 z o e] at n
      cases n
  refine ⟨AO A O, ds, paired_rep r1, hn.len (Out.bind q1), (R.to s1).there, (Out.bind q1).imp (fun d _ q1 => ?_) fun c fs q1 => ?_⟩
  · cases d with
    | non => exact q1.elim
    | _ =>
      refine ⟨fun z => (nomatch z), fun a b c x y H2 e1 e2 e3 e4 e5 s2 o1 o2 => ?_⟩
      exact q1 a b c x y H2 e1 e2 e3 (old _ e4) (old _ e5) (s1.trans s2) o1 o2
  · exact fun da H2 fvs s2 q2 r2 => q1 da H2 fvs (s1.trans s2) q2 r2
/-- two names get new objects of their own -/
theorem c_own2 {i l : Nat} (h : PS X st (tAsg (tF2 X.K W ow m) (gTup X.K 2 (gCons (gName i) (gCons (gName l) gNil))))) (hi : ow i = false) (hl : ow l = false) (hil : i ≠ l) (hN : ∀ j, oN j = (j == l || (j == i || ow j))) (h0 : 0 < i := by decide) (h1 : 0 < l := by decide) (hx : oN.x = none := by rfl) :
    PS X st (tS3 fr X.K W ow oN oB (asg (gtup [gnm i, gnm l]) m)) :=
  PS.of h fun D σ H ⟨A, H0, O, en, R, q⟩ => ⟨A, H0, O, en, R, ((Out.bind q).se R).good fun d q1 a b c x y H1 e1 e2 e3 e4 e5 s1 o1 o2 => by
    subst e1
    refine ⟨a, [.ref b, .ref c], rfl, e2, rfl, .ref b, [.ref c], rfl, .ref c, [], rfl, rfl, ?_⟩
    have q2 : EndOk3 fr X.K A H0 oN oB O H D (.next ((en.set i (some x)).set l (some y))) := q1
    -- the heap without the second one
    have hb : ∃ u, H1 b = some u ∧ ¬ still u ∧ ∀ fvs, u ≠ .xd fvs := o1.obj
    obtain ⟨uc, hc, hs, _⟩ := o2.obj
    let Hm : Hp := fun z => if z = c then none else H1 z
    have hm : ∀ z, z ≠ c → Hm z = H1 z := fun z hz => if_neg hz
    have hmc : Hm c = none := if_pos rfl
    have sA : Same H Hm := fun z o e => by
      have hz : z ≠ c := fun w => by
        rw [w, e5] at e
        cases e
      rw [hm z hz]
      exact s1 z o e
    have sB : Same Hm H1 := fun z o e => by
      by_cases hz : z = c
      · rw [hz, hmc] at e
        cases e
      · rw [← hm z hz]
        exact e
    let o1w : Ow := ⟨fun j => j == i || ow j, none⟩
    have mA : Mv (fun z => (AO A O z ∨ z = b) ∨ z = c) H1 (fun z => AO A O z ∨ z = b) Hm := ⟨fun z hz => .inl (.inl hz), fun z o e hz => by
      have : z ≠ c := fun w => by
        rcases hz with hz | hz
        · exact hz (.inr w)
        · rw [w, hc] at e
          cases e
          exact hs hz
      rw [hm z this]
      exact e⟩
    have o1' : OwnAt X.K (fun z => AO A O z ∨ z = b) Hm b x := o1.move mA (hm b e3)
    obtain ⟨R1, mv1⟩ := (R.opens (oN := o1w) hi (fun j => rfl) (.inl rfl)).take sA (fun q hq => nomatch hq) (by show (i == i || ow i) = true; simp) h0 e4 o1'
    rw [List.set_set] at R1
    have hl1 : o1w l = false := by
      show (l == i || ow l) = false
      rw [hl, Bool.or_false]
      exact beq_false_of_ne fun z => hil z.symm
    have mB : Mv (fun z => (AO A O z ∨ z = b) ∨ z = c) H1 (fun z => AO A (fun j => if j = i then some b else O j) z ∨ z = c) H1 := Mv.less fun z hz => by
      rcases hz with (hz | ⟨j, hz⟩) | hz
      · exact .inl (.inl (.inl hz))
      · by_cases hj : j = i
        · dsimp only at hz
          rw [if_pos hj] at hz
          cases hz
          exact .inl (.inr rfl)
        · dsimp only at hz
          rw [if_neg hj] at hz
          exact .inl (.inl (.inr ⟨j, hz⟩))
      · exact .inr hz
    obtain ⟨R2, mv2⟩ := (R1.opens (oN := oN) hl1 (fun j => hN j) (.inl hx)).take sB (fun q hq => by rw [hx] at hq; cases hq) (by rw [hN]; simp) h1 hmc (o2.move mB rfl)
    rw [List.set_set] at R2
    exact q2 _ _ H1 R2 (mv1.trans mv2)⟩
end
end Py
namespace Py
def b_is_integer : SM :=
  (ret (andE (un (oisi CS [.int]) (var 0)) (un onb (un (oisi CS [.bl]) (var 0)))))
def m_is_integer : List D → Res D := fn 1 1 b_is_integer
def b_is_inputs : SM :=
  (ret (andE (call m_is_integer (argC (var 0) argN)) (Py.chain ole ole (cst (.int 1)) (var 0) (cst (.int 3)))))
def m_is_inputs : List D → Res D := fn 1 1 b_is_inputs
def b_as_tuple : SM :=
  (seq (ite (tst (un (oisi CS [.lst, .tup]) (var 0))) (ret (un btuple (var 0))) skip)
  (ret (cst .non)))
def m_as_tuple : List D → Res D := fn 1 1 b_as_tuple
def b_is_below : SM :=
  (ret (andE (call m_is_integer (argC (var 0) argN)) (Py.chain ole olt (cst (.int 0)) (var 0) (var 1))))
def m_is_below : List D → Res D := fn 2 2 b_is_below
def b_is_line : SM :=
  (seq (ite (orT (notT (tst (un (oisi CS [.tup]) (var 0)))) (tst (bin Py.one (un blen (var 0)) (var 1)))) (ret (cst (.bl false))) skip)
  (ret (un ball (lcE (iseq (var 0)) [3] (gnm 3) yes (call m_is_below (argC (var 3) (argC (var 2) argN)))))))
def m_is_line : List D → Res D := fn 3 4 b_is_line
def b_right_nexts : SM :=
  (seq (asg (gnm 2) (call m_as_tuple (argC (var 0) argN)))
  (seq (ite (notT (tst (var 2))) (rais "InvalidMachine" ["part", "place"] (argC (cst (.str "nexts")) (argC (cst (.int 0)) argN))) skip)
  (seq (for_ (ienum (var 2)) (gtup [(gnm 3), (gnm 4)]) (ite (notT (tst (call m_is_line (argC (var 4) (argC (var 1) (argC (un blen (var 2)) argN)))))) (rais "InvalidMachine" ["part", "place"] (argC (cst (.str "nexts")) (argC (var 3) argN))) skip))
  (ret (var 2)))))
def m_right_nexts : List D → Res D := fn 2 5 b_right_nexts
def b_right_outs : SM :=
  (seq (asg (gnm 3) (call m_as_tuple (argC (var 0) argN)))
  (seq (ite (tst (un oisN (var 3))) (rais "InvalidMachine" ["part", "place"] (argC (cst (.str "outs")) (argC (cst (.int 0)) argN))) skip)
  (seq (asg (gnm 4) (bin bmin2 (un blen (var 3)) (var 2)))
  (seq (for_ (irng1 (var 4)) (gnm 5) (ite (notT (tst (call m_is_line (argC (bin oidx (var 3) (var 5)) (argC (var 1) (argC (cst (.int 2)) argN)))))) (rais "InvalidMachine" ["part", "place"] (argC (cst (.str "outs")) (argC (var 5) argN))) skip))
  (seq (ite (tst (bin Py.one (un blen (var 3)) (var 2))) (rais "InvalidMachine" ["part", "place"] (argC (cst (.str "outs")) (argC (var 4) argN))) skip)
  (ret (var 3)))))))
def m_right_outs : List D → Res D := fn 3 6 b_right_outs
def b_Machine_init : SM :=
  (seq (ite (notT (tst (call m_is_inputs (argC (var 1) argN)))) (rais "InvalidMachine" ["part", "place"] (argC (cst (.str "inputs")) (argC (cst (.int 0)) argN))) skip)
  (seq (asg (gnm 4) (bin oshl (cst (.int 1)) (var 1)))
  (seq (setF 0 ["Machine"] "inputs" (var 1))
  (seq (setF 0 ["Machine"] "nexts" (call m_right_nexts (argC (var 2) (argC (var 4) argN))))
  (setF 0 ["Machine"] "outs" (call m_right_outs (argC (var 3) (argC (var 4) (argC (un blen (un (oattr ["Machine"] "nexts") (var 0))) argN)))))))))
def m_Machine : List D → Res D := made 4 5 "Machine" b_Machine_init
def b__law_breaks : SM :=
  (seq (asg (gnm 2) (lstE (argC (cst (.int 0)) argN)))
  (seq (asg (gnm 3) (dic1 false (cst (.int 0)) (cst (.bl true))))
  (seq (for_ (irng1 (un blen (var 0))) (gnm 4) (ite (tst (bin olt (var 4) (un blen (var 2)))) (for_ (iseq (bin oidx (var 0) (bin oidx (var 2) (var 4)))) (gnm 5) (ite (tst (bin onotin (var 5) (var 3))) (seq (setL 3 (var 5) (cst (.bl true)))
  (app 2 (var 5))) skip)) skip))
  (seq (for_ (iseq (var 2)) (gnm 5) (for_ (irng1 (un blen (bin oidx (var 0) (cst (.int 0))))) (gnm 6) (seq (asg (gnm 7) (var 5))
  (seq (for_ (irng1 (un blen (var 2))) (gnm 4) (asg (gnm 7) (bin oidx (bin oidx (var 0) (var 7)) (var 6))))
  (seq (asg (gnm 8) (bin oidx (bin oidx (var 1) (var 7)) (var 6)))
  (for_ (irng1 (un blen (var 2))) (gnm 4) (seq (ite (tst (bin Py.one (bin oidx (bin oidx (var 1) (var 7)) (var 6)) (var 8))) (ret (cst (.bl true))) skip)
  (asg (gnm 7) (bin oidx (bin oidx (var 0) (var 7)) (var 6))))))))))
  (ret (cst (.bl false)))))))
def m_law_breaks : List D → Res D := fn 2 9 b__law_breaks
def b__law_pick : SM :=
  (seq (ite (tst (bin ogt (bin oidx (var 0) (cst (.int 2))) (cst (.int 1)))) (seq (asg (gnm 2) (bin omod (un bint (bin oidx (var 0) (cst (.int 2)))) (var 1)))
  (seq (setL 0 (cst (.int 2)) (bin ofdiv (bin oidx (var 0) (cst (.int 2))) (var 1)))
  (retB (var 2)))) skip)
  (seq (asg (gnm 3) (cst (.int 0)))
  (seq (ite (tst (bin olt (bin oidx (var 0) (cst (.int 1))) (un blenC (bin oidx (var 0) (cst (.int 0)))))) (seq (asg (gnm 3) (bin oidxC (bin oidx (var 0) (cst (.int 0))) (bin oidx (var 0) (cst (.int 1)))))
  (setL 0 (cst (.int 1)) (bin oadd (bin oidx (var 0) (cst (.int 1))) (cst (.int 1))))) skip)
  (seq (ite (tst (bin ogt (var 3) (bin oadd (bin opow (cst (.int 10)) (cst (.int 18))) (cst (.int 1))))) (seq (asg (gnm 3) (bin osub (var 3) (bin opow (cst (.int 10)) (cst (.int 18)))))
  (seq (setL 0 (cst (.int 2)) (bin ofdiv (var 3) (var 1)))
  (retB (bin omod (un bint (var 3)) (var 1))))) skip)
  (seq (setL 0 (cst (.int 3)) (bin omod (un bint (bin oadd (bin oadd (bin omul (bin oidx (var 0) (cst (.int 3))) (cst (.int 48271))) (bin omul (var 3) (cst (.int 69621)))) (cst (.int 11)))) (cst (.int 2147483647))))
  (retB (bin omod (bin ofdiv (bin omod (un bint (bin oadd (bin omul (bin oidx (var 0) (cst (.int 3))) (bin oidx (var 0) (cst (.int 3)))) (bin omul (bin oidx (var 0) (cst (.int 3))) (cst (.int 7919))))) (cst (.int 998244353))) (cst (.int 7))) (var 1))))))))
abbrev m_law_pick : List D → Res D := pickF false
def b__law_any : SM :=
  (seq (asg (gnm 2) (call m_law_pick (argC (var 0) (argC (cst (.int 3)) argN))))
  (seq (asg (gnm 3) (bin oadd (cst (.int 1)) (call m_law_pick (argC (var 0) (argC (cst (.int 9)) argN)))))
  (seq (ite (tst (bin oeq (var 2) (cst (.int 0)))) (asg (gnm 3) (bin oadd (cst (.int 1)) (call m_law_pick (argC (var 0) (argC (cst (.int 5)) argN))))) skip)
  (seq (asg (gnm 4) (lcE (irng1 (var 1)) [9] (gnm 9) yes (call m_law_pick (argC (var 0) (argC (cst (.int 2)) argN)))))
  (seq (asg (gnm 5) (call m_law_pick (argC (var 0) (argC (bin omul (cst (.int 2)) (var 3)) argN))))
  (seq (asg (gnm 6) (lstE argN))
  (seq (asg (gnm 7) (lstE argN))
  (seq (for_ (irng1 (var 3)) (gnm 8) (seq (ite (tst (bin oeq (var 2) (cst (.int 1)))) (app 6 (lcE (irng1 (var 1)) [9] (gnm 9) yes (bin oadd (var 8) (call m_law_pick (argC (var 0) (argC (bin osub (var 3) (var 8)) argN)))))) (app 6 (lcE (irng1 (var 1)) [9] (gnm 9) yes (call m_law_pick (argC (var 0) (argC (var 3) argN))))))
  (ite (tst (bin oeq (var 2) (cst (.int 2)))) (app 7 (lcE (iseq (var 4)) [10] (gnm 10) yes (bin oxor (var 10) (un bint (bin oeq (var 8) (var 5)))))) (app 7 (lcE (irng1 (var 1)) [9] (gnm 9) yes (call m_law_pick (argC (var 0) (argC (cst (.int 2)) argN))))))))
  (ret (tupE (argC (var 6) (argC (var 7) argN))))))))))))
def m_law_any : List D → Res D := fn 2 11 b__law_any
def b__law_chain : SM :=
  (seq (asg (gnm 2) (call m_law_pick (argC (var 0) (argC (cst (.int 6)) argN))))
  (seq (ite (tst (bin oeq (call m_law_pick (argC (var 0) (argC (cst (.int 3)) argN))) (cst (.int 0)))) (asg (gnm 2) (call m_law_pick (argC (var 0) (argC (cst (.int 38)) argN)))) skip)
  (seq (asg (gnm 3) (bin oadd (cst (.int 1)) (call m_law_pick (argC (var 0) (argC (cst (.int 3)) argN)))))
  (seq (asg (gnm 4) (call m_law_pick (argC (var 0) (argC (var 1) argN))))
  (seq (asg (gnm 5) (call m_law_pick (argC (var 0) (argC (cst (.int 2)) argN))))
  (seq (asg (gnm 6) (bin oadd (var 2) (call m_law_pick (argC (var 0) (argC (bin omul (cst (.int 2)) (var 3)) argN)))))
  (seq (asg (gnm 7) (lstE argN))
  (seq (asg (gnm 8) (lstE argN))
  (seq (for_ (irng1 (var 2)) (gnm 9) (seq (asg (gnm 10) (lcE (irng1 (var 1)) [12] (gnm 12) yes (var 9)))
  (seq (setL 10 (call m_law_pick (argC (var 0) (argC (var 1) argN))) (bin oadd (var 9) (cst (.int 1))))
  (seq (app 7 (var 10))
  (app 8 (lcE (irng1 (var 1)) [12] (gnm 12) yes (call m_law_pick (argC (var 0) (argC (cst (.int 2)) argN)))))))))
  (seq (for_ (irng2 (var 2) (bin oadd (var 2) (var 3))) (gnm 9) (seq (asg (gnm 10) (lcE (irng1 (var 1)) [12] (gnm 12) yes (var 9)))
  (seq (setL 10 (var 4) (bin oadd (var 2) (bin omod (un bint (bin oadd (bin osub (var 9) (var 2)) (cst (.int 1)))) (var 3))))
  (seq (app 7 (var 10))
  (seq (asg (gnm 11) (lcE (irng1 (var 1)) [12] (gnm 12) yes (call m_law_pick (argC (var 0) (argC (cst (.int 2)) argN)))))
  (seq (setL 11 (var 4) (bin oxor (var 5) (un bint (bin oeq (var 9) (var 6)))))
  (app 8 (var 11))))))))
  (ret (tupE (argC (var 7) (argC (var 8) argN))))))))))))))
def m_law_chain : List D → Res D := fn 2 13 b__law_chain
def b__law_machine : SM :=
  (seq (ite (tst (bin oeq (call m_law_pick (argC (var 0) (argC (cst (.int 2)) argN))) (cst (.int 0)))) (asg (gtup [(gnm 2), (gnm 3)]) (callF m_law_any (argC (var 0) (argC (var 1) argN)))) (asg (gtup [(gnm 2), (gnm 3)]) (callF m_law_chain (argC (var 0) (argC (var 1) argN)))))
  (seq (asg (gnm 4) (un blen (var 2)))
  (seq (ite (andT (tst (bin oeq (call m_law_pick (argC (var 0) (argC (cst (.int 3)) argN))) (cst (.int 0)))) (tst (bin ole (var 4) (cst (.int 37))))) (seq (app 2 (lcE (irng1 (var 1)) [7] (gnm 7) yes (bin oadd (var 4) (cst (.int 1)))))
  (seq (app 2 (lcE (irng1 (var 1)) [7] (gnm 7) yes (var 4)))
  (seq (app 2 (lcE (irng1 (var 1)) [7] (gnm 7) yes (call m_law_pick (argC (var 0) (argC (bin oadd (var 4) (cst (.int 3))) argN)))))
  (seq (app 3 (lcE (irng1 (var 1)) [7] (gnm 7) yes (cst (.int 0))))
  (seq (app 3 (lcE (irng1 (var 1)) [7] (gnm 7) yes (cst (.int 1))))
  (app 3 (lcE (irng1 (var 1)) [7] (gnm 7) yes (call m_law_pick (argC (var 0) (argC (cst (.int 2)) argN)))))))))) skip)
  (ret (tupE (argC (lcE (iseq (var 2)) [5] (gnm 5) yes (un btuple (var 5))) (argC (lcE (iseq (var 3)) [6] (gnm 6) yes (un btuple (var 6))) argN)))))))
def m_law_machine : List D → Res D := fn 2 8 b__law_machine
def b__law_letter : SM :=
  (seq (asg (gnm 2) (cst (.int 0)))
  (seq (for_ (irng1 (un blen (var 0))) (gnm 3) (asg (gnm 2) (bin oadd (var 2) (bin oshl (bin oand (bin oshr (bin oidx (var 0) (var 3)) (var 1)) (cst (.int 1))) (var 3)))))
  (ret (var 2))))
def m_law_letter : List D → Res D := fn 2 4 b__law_letter
def b__law_no_end : SM :=
  (seq (asg (gnm 3) (cst (.int 0)))
  (seq (asg (gnm 4) (bin oadd (cst (.int 42)) (un blen (var 0))))
  (seq (for_ (irng1 (var 4)) (gnm 5) (asg (gnm 3) (bin oidx (bin oidx (var 0) (var 3)) (call m_law_letter (argC (var 2) (argC (var 5) argN))))))
  (seq (asg (gnm 6) (call m_law_letter (argC (var 2) (argC (var 4) argN))))
  (seq (asg (gnm 7) (bin oidx (bin oidx (var 1) (var 3)) (var 6)))
  (seq (for_ (irng1 (un blen (var 0))) (gnm 8) (seq (ite (tst (bin Py.one (bin oidx (bin oidx (var 1) (var 3)) (var 6)) (var 7))) (ret (cst (.bl true))) skip)
  (asg (gnm 3) (bin oidx (bin oidx (var 0) (var 3)) (var 6)))))
  (ret (cst (.bl false)))))))))
def m_law_no_end : List D → Res D := fn 3 9 b__law_no_end
def b__law_right : SM :=
  (seq (ite (orT (notT (tst (un (oisi CS [.tup]) (var 0)))) (tst (bin Py.one (un blen (var 0)) (var 1)))) (ret (cst (.bl false))) skip)
  (seq (for_ (iseq (var 0)) (gnm 4) (seq (ite (orT (notT (tst (un (oisi CS [.int]) (var 4)))) (tst (un (oisi CS [.bl]) (var 4)))) (ret (cst (.bl false))) skip)
  (ite (orT (tst (bin olt (var 4) (un oneg (bin oshl (cst (.int 1)) (cst (.int 40)))))) (tst (bin ogt (var 4) (bin oshl (cst (.int 1)) (cst (.int 40)))))) (ret (cst (.bl false))) skip)))
  (ret (call m_law_no_end (argC (var 2) (argC (var 3) (argC (var 0) argN)))))))
def m_law_right : List D → Res D := fn 4 5 b__law_right
def b_Machine_len : SM :=
  (ret (un blen (un (oattr ["Machine"] "nexts") (var 0))))
def m_Machine_len : List D → Res D := fn 1 1 b_Machine_len
def b_letters_of : SM :=
  (ret (lrngE (irng1 (bin oshl (cst (.int 1)) (un (oattr ["Machine"] "inputs") (var 0))))))
def m_letters_of : List D → Res D := fn 1 1 b_letters_of
def b_first_readings : SM :=
  (seq (asg (gnm 1) (dic1 false (cst (.int 0)) (tupE argN)))
  (seq (asg (gnm 2) (lstE (argC (cst (.int 0)) argN)))
  (seq (asg (gnm 3) (cst (.int 0)))
  (seq (while_ (tst (bin olt (var 3) (un blen (var 2)))) (seq (asg (gnm 4) (bin oidx (var 2) (var 3)))
  (seq (for_ (iseq (call m_letters_of (argC (var 0) argN))) (gnm 5) (seq (asg (gnm 6) (bin oidx (bin oidx (un (oattr ["Machine"] "nexts") (var 0)) (var 4)) (var 5)))
  (ite (tst (bin onotin (var 6) (var 1))) (seq (setL 1 (var 6) (bin oadd (bin oidx (var 1) (var 4)) (tupE (argC (var 5) argN))))
  (app 2 (var 6))) skip)))
  (aug 3 oiadd (cst (.int 1))))))
  (ret (lcE (irng1 (un blen (un (oattr ["Machine"] "nexts") (var 0)))) [4] (gnm 4) yes (bin oidx (var 1) (var 4))))))))
def m_first_readings : List D → Res D := fn 1 7 b_first_readings
def b_numbered : SM :=
  (seq (asg (gnm 1) (dic0 true))
  (seq (asg (gnm 2) (lstE argN))
  (seq (for_ (iseq (var 0)) (gnm 3) (seq (ite (tst (bin onotin (var 3) (var 1))) (setL 1 (var 3) (un blen (var 1))) skip)
  (app 2 (bin oidx (var 1) (var 3)))))
  (ret (var 2)))))
def m_numbered : List D → Res D := fn 1 4 b_numbered
def b_state_classes : SM :=
  (seq (asg (gnm 1) (call m_numbered (argC (un blist (un (oattr ["Machine"] "outs") (var 0))) argN)))
  (while_ (tst (cst (.bl true))) (seq (asg (gnm 2) (lstE argN))
  (seq (for_ (ienum (un (oattr ["Machine"] "nexts") (var 0))) (gtup [(gnm 3), (gnm 4)]) (app 2 (tupE (argC (bin oidx (var 1) (var 3)) (argC (un btuple (lcE (iseq (var 4)) [6] (gnm 6) yes (bin oidx (var 1) (var 6)))) argN)))))
  (seq (asg (gnm 5) (call m_numbered (argC (var 2) argN)))
  (seq (ite (tst (bin oeq (un bmaxL (var 5)) (un bmaxL (var 1)))) (ret (var 1)) skip)
  (asg (gnm 1) (var 5))))))))
def m_state_classes : List D → Res D := fn 1 7 b_state_classes
def b_least_machine : SM :=
  (seq (asg (gnm 1) (call m_state_classes (argC (var 0) argN)))
  (seq (asg (gnm 2) (lstE (argC (cst (.int 0)) argN)))
  (seq (asg (gnm 3) (dic1 false (bin oidx (var 1) (cst (.int 0))) (cst (.int 0))))
  (seq (asg (gnm 4) (lstE argN))
  (seq (while_ (tst (bin olt (un blen (var 4)) (un blen (var 2)))) (seq (asg (gnm 5) (lstE argN))
  (seq (for_ (iseq (bin oidx (un (oattr ["Machine"] "nexts") (var 0)) (bin oidx (var 2) (un blen (var 4))))) (gnm 6) (seq (ite (tst (bin onotin (bin oidx (var 1) (var 6)) (var 3))) (seq (setL 3 (bin oidx (var 1) (var 6)) (un blen (var 2)))
  (app 2 (var 6))) skip)
  (app 5 (bin oidx (var 3) (bin oidx (var 1) (var 6))))))
  (app 4 (un btuple (var 5))))))
  (ret (call m_Machine (argC (un (oattr ["Machine"] "inputs") (var 0)) (argC (var 4) (argC (lcE (iseq (var 2)) [7] (gnm 7) yes (bin oidx (un (oattr ["Machine"] "outs") (var 0)) (var 7))) argN))))))))))
def m_least_machine : List D → Res D := fn 1 8 b_least_machine
def b_numbers_read : SM :=
  (seq (asg (gnm 3) (lstE argN))
  (seq (for_ (irng1 (var 0)) (gnm 4) (seq (asg (gnm 5) (un bsum (lcE (ienum (var 1)) [6, 7] (gtup [(gnm 6), (gnm 7)]) yes (bin oshl (bin oand (bin oshr (var 7) (var 4)) (cst (.int 1))) (var 6)))))
  (app 3 (bin osub (var 5) (bin oshl (bin oand (bin oshr (var 2) (var 4)) (cst (.int 1))) (un blen (var 1)))))))
  (ret (un btuple (var 3)))))
def m_numbers_read : List D → Res D := fn 3 8 b_numbers_read
def b_ring_bits : SM :=
  (seq (for_ (irng1 (un (lenX [("Machine", m_Machine_len)]) (var 0))) (gnm 3) (asg (gnm 1) (bin oidx (bin oidx (un (oattr ["Machine"] "nexts") (var 0)) (var 1)) (var 2))))
  (seq (asg (gnm 4) (lstE argN))
  (seq (for_ (irng1 (un (lenX [("Machine", m_Machine_len)]) (var 0))) (gnm 3) (seq (app 4 (bin oidx (bin oidx (un (oattr ["Machine"] "outs") (var 0)) (var 1)) (var 2)))
  (asg (gnm 1) (bin oidx (bin oidx (un (oattr ["Machine"] "nexts") (var 0)) (var 1)) (var 2)))))
  (ret (var 4)))))
def m_ring_bits : List D → Res D := fn 3 5 b_ring_bits
def b_breaking_numbers : SM :=
  (seq (asg (gnm 1) (call m_least_machine (argC (var 0) argN)))
  (seq (asg (gnm 2) (call m_first_readings (argC (var 1) argN)))
  (seq (for_ (irng1 (un (lenX [("Machine", m_Machine_len)]) (var 1))) (gnm 3) (for_ (irng1 (bin oshl (cst (.int 1)) (un (oattr ["Machine"] "inputs") (var 1)))) (gnm 4) (seq (asg (gnm 5) (call m_ring_bits (argC (var 1) (argC (var 3) (argC (var 4) argN)))))
  (ite (tst (bin Py.one (un bminL (var 5)) (un bmaxL (var 5)))) (ret (call m_numbers_read (argC (un (oattr ["Machine"] "inputs") (var 1)) (argC (bin oidx (var 2) (var 3)) (argC (var 4) argN))))) skip))))
  (ret (cst .non)))))
def m_breaking_numbers : List D → Res D := fn 1 6 b_breaking_numbers
def b_keeps_integers : SM :=
  (ret (un oisN (call m_breaking_numbers (argC (var 0) argN))))
def m_keeps_integers : List D → Res D := fn 1 1 b_keeps_integers
def b__law_ask : SM :=
  (seq (asg (gnm 1) (bin oidx (tupE (argC (cst (.int 1)) (argC (cst (.int 1)) (argC (cst (.int 2)) (argC (cst (.int 3)) argN))))) (call m_law_pick (argC (var 0) (argC (cst (.int 4)) argN)))))
  (seq (asg (gtup [(gnm 2), (gnm 3)]) (call m_law_machine (argC (var 0) (argC (bin oshl (cst (.int 1)) (var 1)) argN))))
  (seq (asg (gnm 4) (call m_Machine (argC (var 1) (argC (un blist (var 2)) (argC (un blist (var 3)) argN)))))
  (seq (asg (gnm 5) (call m_law_breaks (argC (var 2) (argC (var 3) argN))))
  (seq (asg (gnm 6) (call m_keeps_integers (argC (var 4) argN)))
  (seq (ite (orT (andT (tst (var 5)) (tst (bin onotB (var 6) (cst (.bl false))))) (andT (notT (tst (var 5))) (tst (bin onotB (var 6) (cst (.bl true)))))) (ret (cst (.bl false))) skip)
  (seq (for_ (irng1 (cst (.int 2))) (gnm 7) (seq (asg (gnm 8) (call m_breaking_numbers (argC (var 4) argN)))
  (seq (ite (andT (tst (var 5)) (notT (tst (call m_law_right (argC (var 8) (argC (var 1) (argC (var 2) (argC (var 3) argN)))))))) (ret (cst (.bl false))) skip)
  (seq (ite (andT (notT (tst (var 5))) (tst (un onotN (var 8)))) (ret (cst (.bl false))) skip)
  (asg (gnm 4) (call m_Machine (argC (var 1) (argC (un btuple (var 2)) (argC (un btuple (var 3)) argN)))))))))
  (seq (ite (orT (tst (bin Py.one (un (oattr ["Machine"] "inputs") (var 4)) (var 1))) (orT (tst (bin Py.one (un (oattr ["Machine"] "nexts") (var 4)) (un btuple (var 2)))) (tst (bin Py.one (un (oattr ["Machine"] "outs") (var 4)) (un btuple (var 3)))))) (ret (cst (.bl false))) skip)
  (ret (bin oeq (bin oisB (call m_keeps_integers (argC (var 4) argN)) (cst (.bl true))) (un onb (var 5))))))))))))
def m_law_ask : List D → Res D := fn 1 9 b__law_ask
def b_law : SM :=
  (seq (asg (gnm 1) (mkp (lstE (argC (lcE (iseq (slc (var 0) none (some (cst (.int 63))))) [2] (gnm 2) yes (un bint (var 2))) (argC (cst (.int 0)) (argC (cst (.int 0)) (argC (cst (.int 1)) argN)))))))
  (thru (ret (call m_law_ask (argC (var 1) argN)))))
def m_law : List D → Res D := fn 1 3 b_law
end Py
namespace Py
open PySem PySem.Spec PyProof.Rows L2
abbrev ow_is_integer : Ow := owS []
abbrev ow_is_inputs : Ow := owS []
abbrev ow_as_tuple : Ow := owS []
abbrev ow_is_below : Ow := owS []
abbrev ow_is_line : Ow := owS []
abbrev ow_right_nexts : Ow := owS []
abbrev ow_right_outs : Ow := owS []
abbrev ow_Machine_init : Ow := ⟨fun i => i == 0, none⟩
abbrev ow__law_breaks : Ow := owS []
abbrev ow__law_pick : Ow := ⟨fun i => i == 0, none⟩
abbrev ow__law_any : Ow := owS []
abbrev ow__law_chain : Ow := owS []
abbrev ow__law_machine : Ow := owS []
abbrev ow__law_letter : Ow := owS []
abbrev ow__law_no_end : Ow := owS []
abbrev ow__law_right : Ow := owS []
abbrev ow_Machine_len : Ow := owS []
abbrev ow_letters_of : Ow := owS []
abbrev ow_first_readings : Ow := owS []
abbrev ow_numbered : Ow := owS []
abbrev ow_state_classes : Ow := owS []
abbrev ow_least_machine : Ow := owS []
abbrev ow_numbers_read : Ow := owS []
abbrev ow_ring_bits : Ow := owS []
abbrev ow_breaking_numbers : Ow := owS []
abbrev ow_keeps_integers : Ow := owS []
abbrev ow__law_ask : Ow := owS []
abbrev ow_law : Ow := owS []
abbrev Fs (P : Program) (w : World) (K : Frag) (mg : Str → Option Value) : Prop := FactsY fa fns xfs tbs mss FILE P w K mg
section
variable {P : Program} {w : World} {K : Frag} {mg : Str → Option Value} {base : Heap}
theorem S_InvalidMachine_init : NdefX.NScope N_InvalidMachine_init ["self", "part", "place"] ["__class__"] sc_InvalidMachine_init := NdefX.nscope_by (by decide +kernel)
theorem er_InvalidMachine (Y : Fs P w K mg) : ErrOk P w K mg base 1 "InvalidMachine" ["part", "place"] :=
  err_ok (k := 0) (self := "self") (N := N_InvalidMachine_init) (ps := ["self", "part", "place"]) (Y.err 0 5 (d := d_InvalidMachine_init) (c := "InvalidMachine") (fs := ["part", "place"])) (Y.glo 43) (Y.free 44) Y.ps rfl S_InvalidMachine_init rfl rfl rfl rfl (fun _ _ _ _ _ _ _ us hl => match us, hl with | [_, _, _], _ => rfl)
    (fun _ _ _ _ _ _ _ _ => (pss_cons (ps_ost (pv 0) (pv 1)) (pss_one (ps_ost (pv 0) (pv 2)))))
    (fun a ws H1 Dn σ h0 h1 hl hn q => fld_two (Y.err 0 5 (d := d_InvalidMachine_init) (c := "InvalidMachine") (fs := ["part", "place"])).T ((Y.err 0 5 (d := d_InvalidMachine_init) (c := "InvalidMachine") (fs := ["part", "place"])).no _ (by simp)) ((Y.err 0 5 (d := d_InvalidMachine_init) (c := "InvalidMachine") (fs := ["part", "place"])).no _ (by simp)) h0 h1 hl hn q) (fun _ _ _ _ => rfl) (fun _ _ _ _ => rfl) (fun _ _ _ _ => rfl) (fun _ _ _ _ => rfl)
theorem S_is_integer : FnScope N_is_integer ["value"] sc_is_integer := ⟨rfl, rfl, rfl, by decide +kernel, rfl, by decide +kernel, by decide +kernel⟩
theorem c_is_integer (Y : Fs P w K mg) : CallOk P w K mg base 1 "is_integer" d_is_integer ["value"] 1 m_is_integer :=
  def_ok (d := d_is_integer) (N := N_is_integer) (ps := ["value"]) (p := 1) (m := b_is_integer) (k := 0) (ow := ow_is_integer) (Y.def_ 0) (Y.glo 14) S_is_integer rfl rfl (by decide) (fun _ _ _ _ _ _ us hl => match us, hl with | [_], _ => rfl) (fun cdv A outer s H E T => (ss_one (s_ret (x_and (x_isi1 (cs := CS) (t := .int) rfl (kit_of_b (Y.more 3)) rfl (Y.free 5) (w_of (x_var (pv 0) rfl)) (pe_bltn rfl (Y.free 1) hv_int rfl)) (x_one (x_not (x_isi1 (cs := CS) (t := .bl) rfl (kit_of_b (Y.more 3)) rfl (Y.free 5) (w_of (x_var (pv 0) rfl)) (pe_bltn rfl (Y.free 6) hv_bool rfl))))))))
theorem S_is_inputs : FnScope N_is_inputs ["value"] sc_is_inputs := ⟨rfl, rfl, rfl, by decide +kernel, rfl, by decide +kernel, by decide +kernel⟩
theorem c_is_inputs (Y : Fs P w K mg) : CallOk P w K mg base 2 "is_inputs" d_is_inputs ["value"] 1 m_is_inputs :=
  def_ok (d := d_is_inputs) (N := N_is_inputs) (ps := ["value"]) (p := 1) (m := b_is_inputs) (k := 1) (ow := ow_is_inputs) (Y.def_ 1) (Y.glo 15) S_is_inputs rfl rfl (by decide) (fun _ _ _ _ _ _ us hl => match us, hl with | [_], _ => rfl) (fun cdv A outer s H E T => (ss_one (s_ret (x_and (x_own1 T (c_is_integer Y) (by decide) rfl (xa_cons (x_var (pv 0) rfl) xa_nil)) (x_one (x_chain y_le y_le n_le n_le (w_of x_int) (w_of (x_var (pv 0) rfl)) (w_of x_int)))))))
theorem S_as_tuple : FnScope N_as_tuple ["value"] sc_as_tuple := ⟨rfl, rfl, rfl, by decide +kernel, rfl, by decide +kernel, by decide +kernel⟩
theorem c_as_tuple (Y : Fs P w K mg) : CallOk P w K mg base 1 "as_tuple" d_as_tuple ["value"] 1 m_as_tuple :=
  def_ok (d := d_as_tuple) (N := N_as_tuple) (ps := ["value"]) (p := 1) (m := b_as_tuple) (k := 0) (ow := ow_as_tuple) (Y.def_ 2) (Y.glo 16) S_as_tuple rfl rfl (by decide) (fun _ _ _ _ _ _ us hl => match us, hl with | [_], _ => rfl) (fun cdv A outer s H E T => (ss_cons (s_if (t_tst (w_of (x_isiT (cs := CS) (ts := [.lst, .tup]) rfl (kit_of_b (Y.more 3)) rfl (Y.free 5) (w_of (x_var (pv 0) rfl)) (TyL.cons (t := .lst) (pe_bltn rfl (Y.free 2) hv_list rfl) (TyL.cons (t := .tup) (pe_bltn rfl (Y.free 3) hv_tuple rfl) TyL.nil rfl) rfl) (by decide))) (by intro _; rfl)) (ss_one (s_ret (x_t1 v_tuple n_tuple rfl (Y.free 3) hv_tuple (w_of (x_var (pv 0) rfl))))) ss_nil)
  (ss_one (s_ret x_non))))
theorem S_is_below : FnScope N_is_below ["value", "limit"] sc_is_below := ⟨rfl, rfl, rfl, by decide +kernel, rfl, by decide +kernel, by decide +kernel⟩
theorem c_is_below (Y : Fs P w K mg) : CallOk P w K mg base 2 "is_below" d_is_below ["value", "limit"] 2 m_is_below :=
  def_ok (d := d_is_below) (N := N_is_below) (ps := ["value", "limit"]) (p := 2) (m := b_is_below) (k := 1) (ow := ow_is_below) (Y.def_ 3) (Y.glo 17) S_is_below rfl rfl (by decide) (fun _ _ _ _ _ _ us hl => match us, hl with | [_, _], _ => rfl) (fun cdv A outer s H E T => (ss_one (s_ret (x_and (x_own1 T (c_is_integer Y) (by decide) rfl (xa_cons (x_var (pv 0) rfl) xa_nil)) (x_one (x_chain y_le y_lt n_le n_lt (w_of x_int) (w_of (x_var (pv 0) rfl)) (w_of (x_var (pv 1) rfl))))))))
theorem S_is_line : FnScope N_is_line ["value", "many", "limit"] sc_is_line := ⟨rfl, rfl, rfl, by decide +kernel, rfl, by decide +kernel, by decide +kernel⟩
theorem c_is_line (Y : Fs P w K mg) : CallOk P w K mg base 3 "is_line" d_is_line ["value", "many", "limit"] 3 m_is_line :=
  def_ok (d := d_is_line) (N := N_is_line) (ps := ["value", "many", "limit"]) (p := 3) (m := b_is_line) (k := 2) (ow := ow_is_line) (Y.def_ 4) (Y.glo 18) S_is_line rfl rfl (by decide) (fun _ _ _ _ _ _ us hl => match us, hl with | [_, _, _], _ => rfl) (fun cdv A outer s H E T => (ss_cons (s_if (PW.pt (t_or (t_not (t_tst (w_of (x_isi1 (cs := CS) (t := .tup) rfl (kit_of_b (Y.more 3)) rfl (Y.free 5) (w_of (x_var (pv 0) rfl)) (pe_bltn rfl (Y.free 3) hv_tuple rfl))) (by intro _; rfl))) (t_or1 (t_cmp T.ne n_ne b_ne (w_of (x_b1 v_len n_len rfl (Y.free 4) hv_len (w_of (x_var (pv 0) rfl)))) (w_of (x_var (pv 1) rfl)) rfl)))) (ss_one (s_ret x_bl)) ss_nil)
  (ss_one (s_ret (x_b1 (v_all T.calm) n_all rfl (Y.free 8) hv_all (w_of (e_of (f_lc (own := [("member", 3)]) T (i_gr (i_seq (x_var (pv 0) rfl))) (blkOk_by (N := N_is_line) (sc := sc_is_line) (own := [("member", 3)]) (by decide +kernel)) (fun _ _ _ _ _ T1 => (g_nm (pg_name (i := 3) T1.nd rfl (Or.inl rfl)) rfl)) (fun _ _ _ _ _ T1 => ts_nil) (fun _ _ _ _ _ T1 => (x_own1 T1 (c_is_below Y) (by decide) rfl (xa_cons (x_var (pv 3) rfl) (xa_cons (x_var (pv 2) rfl) xa_nil)))) (by decide)))))))))
theorem S_right_nexts : FnScope N_right_nexts ["value", "letters"] sc_right_nexts := ⟨rfl, rfl, rfl, by decide +kernel, rfl, by decide +kernel, by decide +kernel⟩
theorem c_right_nexts (Y : Fs P w K mg) : CallOk P w K mg base 4 "right_nexts" d_right_nexts ["value", "letters"] 2 m_right_nexts :=
  def_ok (d := d_right_nexts) (N := N_right_nexts) (ps := ["value", "letters"]) (p := 2) (m := b_right_nexts) (k := 3) (ow := ow_right_nexts) (Y.def_ 5) (Y.glo 19) S_right_nexts rfl rfl (by decide) (fun _ _ _ _ _ _ us hl => match us, hl with | [_, _], _ => rfl) (fun cdv A outer s H E T => (ss_cons (s_set (ps_set (i := 2) T.nd rfl (Or.inl rfl) (x_own1 T (c_as_tuple Y) (by decide) rfl (xa_cons (x_var (pv 0) rfl) xa_nil))) rfl)
  (ss_cons (s_if (t_not (t_tst (w_of (x_var (pv 2) rfl)) (by intro _; rfl))) (ss_one (s_raise T (er_InvalidMachine Y) (by decide) rfl (xa_cons (x_str (s := "nexts")) (xa_cons x_int xa_nil)))) ss_nil)
  (ss_cons (s_for T.po T.calm (i_enum rfl (Y.free 7) (x_var (pv 2) rfl)) (g_tup T.calm (gs_cons (g_nm (pg_name (i := 3) T.nd rfl (Or.inl rfl)) rfl) (gs_cons (g_nm (pg_name (i := 4) T.nd rfl (Or.inl rfl)) rfl) gs_nil))) (ss_one (s_if (t_not (t_tst (w_of (x_own1 T (c_is_line Y) (by decide) rfl (xa_cons (x_var (pv 4) rfl) (xa_cons (x_var (pv 1) rfl) (xa_cons (x_b1 v_len n_len rfl (Y.free 4) hv_len (w_of (x_var (pv 2) rfl))) xa_nil))))) (by intro _; rfl))) (ss_one (s_raise T (er_InvalidMachine Y) (by decide) rfl (xa_cons (x_str (s := "nexts")) (xa_cons (x_var (pv 3) rfl) xa_nil)))) ss_nil)))
  (ss_one (s_ret (x_var (pv 2) rfl)))))))
theorem S_right_outs : FnScope N_right_outs ["value", "letters", "states"] sc_right_outs := ⟨rfl, rfl, rfl, by decide +kernel, rfl, by decide +kernel, by decide +kernel⟩
theorem c_right_outs (Y : Fs P w K mg) : CallOk P w K mg base 4 "right_outs" d_right_outs ["value", "letters", "states"] 3 m_right_outs :=
  def_ok (d := d_right_outs) (N := N_right_outs) (ps := ["value", "letters", "states"]) (p := 3) (m := b_right_outs) (k := 3) (ow := ow_right_outs) (Y.def_ 6) (Y.glo 20) S_right_outs rfl rfl (by decide) (fun _ _ _ _ _ _ us hl => match us, hl with | [_, _, _], _ => rfl) (fun cdv A outer s H E T => (ss_cons (s_set (ps_set (i := 3) T.nd rfl (Or.inl rfl) (x_own1 T (c_as_tuple Y) (by decide) rfl (xa_cons (x_var (pv 0) rfl) xa_nil))) rfl)
  (ss_cons (s_if (t_isN (w_of (x_var (pv 3) rfl))) (ss_one (s_raise T (er_InvalidMachine Y) (by decide) rfl (xa_cons (x_str (s := "outs")) (xa_cons x_int xa_nil)))) ss_nil)
  (ss_cons (s_set (ps_set (i := 4) T.nd rfl (Or.inl rfl) (x_b2 (v_min2 T.calm) n_min2 rfl (Y.free 9) hv_min (w_of (x_b1 v_len n_len rfl (Y.free 4) hv_len (w_of (x_var (pv 3) rfl)))) (w_of (x_var (pv 2) rfl)))) rfl)
  (ss_cons (s_for T.po T.calm (i_rng1 rfl (Y.free 0) (x_var (pv 4) rfl)) (g_nm (pg_name (i := 5) T.nd rfl (Or.inl rfl)) rfl) (ss_one (s_if (t_not (t_tst (w_of (x_own1 T (c_is_line Y) (by decide) rfl (xa_cons (x_idx T.ix (w_of (x_var (pv 3) rfl)) (w_of (x_var (pv 5) rfl))) (xa_cons (x_var (pv 1) rfl) (xa_cons x_int xa_nil))))) (by intro _; rfl))) (ss_one (s_raise T (er_InvalidMachine Y) (by decide) rfl (xa_cons (x_str (s := "outs")) (xa_cons (x_var (pv 5) rfl) xa_nil)))) ss_nil)))
  (ss_cons (s_if (t_cmp T.ne n_ne b_ne (w_of (x_b1 v_len n_len rfl (Y.free 4) hv_len (w_of (x_var (pv 3) rfl)))) (w_of (x_var (pv 2) rfl)) rfl) (ss_one (s_raise T (er_InvalidMachine Y) (by decide) rfl (xa_cons (x_str (s := "outs")) (xa_cons (x_var (pv 4) rfl) xa_nil)))) ss_nil)
  (ss_one (s_ret (x_var (pv 3) rfl)))))))))
theorem S_Machine_init : FnScope N_Machine_init ["self", "inputs", "nexts", "outs"] sc_Machine_init := ⟨rfl, rfl, rfl, by decide +kernel, rfl, by decide +kernel, by decide +kernel⟩
theorem c_Machine (Y : Fs P w K mg) : MakeOk P w K mg base 5 "Machine" 4 m_Machine :=
  cls_ok (name := "__init__") (qual := "Machine.__init__") (params := defArgs st_Machine_init) (body := defBody st_Machine_init) (scope := sc_Machine_init) (f := He.ma K (ca K "Machine") "__init__") (N := N_Machine_init) (p := 4) (m := b_Machine_init) (k := 4) (ow := ow_Machine_init) (Y.def_ 7) (Y.glo 21) (Y.mkr 22 (x := "Machine")) S_Machine_init rfl rfl rfl (by decide) (by decide) (fun _ _ _ _ _ _ us hl => match us, hl with | [_, _, _, _], _ => rfl) (fun cdv A outer s H E T => (ss_cons (s_if (t_not (t_tst (w_of (x_own1 T (c_is_inputs Y) (by decide) rfl (xa_cons (x_var (pv 1) rfl) xa_nil))) (by intro _; rfl))) (ss_one (s_raise T (er_InvalidMachine Y) (by decide) rfl (xa_cons (x_str (s := "inputs")) (xa_cons x_int xa_nil)))) ss_nil)
  (ss_cons (s_set (ps_set (i := 4) T.nd rfl (Or.inl rfl) (x_bin y_shl n_shl (w_of x_int) (w_of (x_var (pv 1) rfl)))) rfl)
  (ss_cons (s_setF (att_ok (Y.more 0)) (ps_fld (pv 0) (x_var (pv 1) rfl) rfl) rfl)
  (ss_cons (s_setF (att_ok (Y.more 1)) (ps_fld (pv 0) (x_own1 T (c_right_nexts Y) (by decide) rfl (xa_cons (x_var (pv 2) rfl) (xa_cons (x_var (pv 4) rfl) xa_nil))) rfl) rfl)
  (ss_one (s_setF (att_ok (Y.more 2)) (ps_fld (pv 0) (x_own1 T (c_right_outs Y) (by decide) rfl (xa_cons (x_var (pv 3) rfl) (xa_cons (x_var (pv 4) rfl) (xa_cons (x_b1 v_len n_len rfl (Y.free 4) hv_len (w_of (x_attr (att_ok (Y.more 1)) (x_own (pv 0))))) xa_nil)))) rfl) rfl)))))))
theorem S__law_breaks : FnScope N__law_breaks ["nexts", "outs"] sc__law_breaks := ⟨rfl, rfl, rfl, by decide +kernel, rfl, by decide +kernel, by decide +kernel⟩
theorem c_law_breaks (Y : Fs P w K mg) : CallOk P w K mg base 1 "_law_breaks" d__law_breaks ["nexts", "outs"] 2 m_law_breaks :=
  def_ok (d := d__law_breaks) (N := N__law_breaks) (ps := ["nexts", "outs"]) (p := 2) (m := b__law_breaks) (k := 0) (ow := ow__law_breaks) (oN := owS []) (oB := owS []) (Y.def_ 8) (Y.glo 23) S__law_breaks rfl rfl (by decide) (fun _ _ _ _ _ _ us hl => match us, hl with | [_, _], _ => rfl) (fun cdv A outer s H E T => (c_cons (o1 := owS [2]) (c_own (ps_set (i := 2) T.nd rfl (Or.inl rfl) (f_lst (xa_cons x_int xa_nil))) rfl (owS_add (by decide)))
  (c_cons (o1 := owS [2, 3]) (c_own (ps_set (i := 3) T.nd rfl (Or.inl rfl) (f_dicK x_int x_bl)) rfl (owS_add (by decide)))
  (c_cons (o1 := owS [2, 3]) (s_up (s_for T.po T.calm (i_rng1 rfl (Y.free 0) (x_b1 v_len n_len rfl (Y.free 4) hv_len (w_of (x_var (pv 0) rfl)))) (g_nm (pg_name (i := 4) T.nd rfl (Or.inl rfl)) rfl) (c_one (c_if (t_cmp y_lt n_lt b_lt (w_of (x_var (pv 4) rfl)) (w_of (x_b1 v_len n_len rfl (Y.free 4) hv_len (x_own (pv 2)))) rfl) (c_one (s_up (s_for T.po T.calm (i_seq (x_idx T.ix (w_of (x_var (pv 0) rfl)) (w_of (x_idx T.ix (x_own (pv 2)) (w_of (x_var (pv 4) rfl)))))) (g_nm (pg_name (i := 5) T.nd rfl (Or.inl rfl)) rfl) (c_one (c_if (t_cmp T.nin n_notin b_notin (w_of (x_var (pv 5) rfl)) (x_own (pv 3)) rfl) (c_cons (o1 := owS [2, 3]) (s_up (s_setL (i := 3) (ps_asg x_bl (pg_sub (pv 3) (x_var (pv 5) rfl) T.st)) rfl) (owS_le (by decide)) (by decide))
  (c_one (s_up (s_app1 (i := 2) (pv 2) (x_var (pv 5) rfl) rfl) (owS_le (by decide)) (by decide)))) (c_cut (o1 := owS [2, 3]) c_nil (owS_le (by decide)) (by decide))))) (owS_le (by decide)) (by decide))) (c_cut (o1 := owS [2, 3]) c_nil (owS_le (by decide)) (by decide))))) (owS_le (by decide)) (by decide))
  (c_cut (o1 := owS []) (c_cons (o1 := owS []) (s_up (s_for T.po T.calm (i_seq (x_var (pv 2) rfl)) (g_nm (pg_name (i := 5) T.nd rfl (Or.inl rfl)) rfl) (c_one (s_up (s_for T.po T.calm (i_rng1 rfl (Y.free 0) (x_b1 v_len n_len rfl (Y.free 4) hv_len (w_of (x_idx T.ix (w_of (x_var (pv 0) rfl)) (w_of x_int))))) (g_nm (pg_name (i := 6) T.nd rfl (Or.inl rfl)) rfl) (c_cons (o1 := owS []) (s_up (s_set (ps_set (i := 7) T.nd rfl (Or.inl rfl) (x_var (pv 5) rfl)) rfl) (owS_le (by decide)) (by decide))
  (c_cons (o1 := owS []) (s_up (s_for T.po T.calm (i_rng1 rfl (Y.free 0) (x_b1 v_len n_len rfl (Y.free 4) hv_len (w_of (x_var (pv 2) rfl)))) (g_nm (pg_name (i := 4) T.nd rfl (Or.inl rfl)) rfl) (c_one (s_up (s_set (ps_set (i := 7) T.nd rfl (Or.inl rfl) (x_idx T.ix (w_of (x_idx T.ix (w_of (x_var (pv 0) rfl)) (w_of (x_var (pv 7) rfl)))) (w_of (x_var (pv 6) rfl)))) rfl) (owS_le (by decide)) (by decide)))) (owS_le (by decide)) (by decide))
  (c_cons (o1 := owS []) (s_up (s_set (ps_set (i := 8) T.nd rfl (Or.inl rfl) (x_idx T.ix (w_of (x_idx T.ix (w_of (x_var (pv 1) rfl)) (w_of (x_var (pv 7) rfl)))) (w_of (x_var (pv 6) rfl)))) rfl) (owS_le (by decide)) (by decide))
  (c_one (s_up (s_for T.po T.calm (i_rng1 rfl (Y.free 0) (x_b1 v_len n_len rfl (Y.free 4) hv_len (w_of (x_var (pv 2) rfl)))) (g_nm (pg_name (i := 4) T.nd rfl (Or.inl rfl)) rfl) (c_cons (o1 := owS []) (c_if (t_cmp T.ne n_ne b_ne (w_of (x_idx T.ix (w_of (x_idx T.ix (w_of (x_var (pv 1) rfl)) (w_of (x_var (pv 7) rfl)))) (w_of (x_var (pv 6) rfl)))) (w_of (x_var (pv 8) rfl)) rfl) (c_one (s_up (s_ret x_bl) (owS_le (by decide)) (by decide))) (c_cut (o1 := owS []) c_nil (owS_le (by decide)) (by decide)))
  (c_one (s_up (s_set (ps_set (i := 7) T.nd rfl (Or.inl rfl) (x_idx T.ix (w_of (x_idx T.ix (w_of (x_var (pv 0) rfl)) (w_of (x_var (pv 7) rfl)))) (w_of (x_var (pv 6) rfl)))) rfl) (owS_le (by decide)) (by decide))))) (owS_le (by decide)) (by decide))))))) (owS_le (by decide)) (by decide)))) (owS_le (by decide)) (by decide))
  (c_one (s_up (s_ret x_bl) (owS_le (by decide)) (by decide)))) (owS_le (by decide)) (by decide))))))
theorem S__law_pick : FnScope N__law_pick ["pool", "many"] sc__law_pick := ⟨rfl, rfl, rfl, by decide +kernel, rfl, by decide +kernel, by decide +kernel⟩
theorem c_law_pick (Y : Fs P w K mg) : CallOk P w K mg base 1 "_law_pick" d__law_pick ["pool", "many"] 2 m_law_pick :=
  def_okP (d := d__law_pick) (N := N__law_pick) (ps := ["pool", "many"]) (kk := false) (m := b__law_pick) (k := 0) (oN := ow__law_pick) (oB := ow__law_pick) (Y.def_ 9) (Y.glo 24) S__law_pick rfl rfl draws_pick (fun _ _ _ _ _ _ us hl => match us, hl with | [_, _], _ => rfl) (fun cdv A outer s H E T => (ss_cons (s_if (t_cmp y_gt n_gt b_gt (w_of (x_idx T.ix (x_own (pv 0)) (w_of x_int))) (w_of x_int) rfl) (ss_cons (s_set (ps_set (i := 2) T.nd rfl (Or.inl rfl) (x_bin y_mod n_mod (w_of (x_t1 v_int n_int rfl (Y.free 1) hv_int (w_of (x_idx T.ix (x_own (pv 0)) (w_of x_int))))) (w_of (x_var (pv 1) rfl)))) rfl)
  (ss_cons (s_setL (i := 0) (ps_asg (x_bin y_fdiv n_fdiv (w_of (x_idx T.ix (x_own (pv 0)) (w_of x_int))) (w_of (x_var (pv 1) rfl))) (pg_sub (pv 0) x_int T.st)) rfl)
  (ss_one (s_retB (x_var (pv 2) rfl) rfl)))) ss_nil)
  (ss_cons (s_set (ps_set (i := 3) T.nd rfl (Or.inl rfl) x_int) rfl)
  (ss_cons (s_if (t_cmp y_lt n_lt b_lt (w_of (x_idx T.ix (x_own (pv 0)) (w_of x_int))) (w_of (x_b1 v_lenC n_lenC rfl (Y.free 4) hv_len (w_of (x_idx T.ix (x_own (pv 0)) (w_of x_int))))) rfl) (ss_cons (s_set (ps_set (i := 3) T.nd rfl (Or.inl rfl) (x_idxC T.ixC (w_of (x_idx T.ix (x_own (pv 0)) (w_of x_int))) (w_of (x_idx T.ix (x_own (pv 0)) (w_of x_int))))) rfl)
  (ss_one (s_setL (i := 0) (ps_asg (x_bin y_add n_add (w_of (x_idx T.ix (x_own (pv 0)) (w_of x_int))) (w_of x_int)) (pg_sub (pv 0) x_int T.st)) rfl))) ss_nil)
  (ss_cons (s_if (t_cmp y_gt n_gt b_gt (w_of (x_var (pv 3) rfl)) (w_of (x_bin y_add n_add (w_of (x_bin y_pow n_pow (w_of x_int) (w_of x_int))) (w_of x_int))) rfl) (ss_cons (s_set (ps_set (i := 3) T.nd rfl (Or.inl rfl) (x_bin y_sub n_sub (w_of (x_var (pv 3) rfl)) (w_of (x_bin y_pow n_pow (w_of x_int) (w_of x_int))))) rfl)
  (ss_cons (s_setL (i := 0) (ps_asg (x_bin y_fdiv n_fdiv (w_of (x_var (pv 3) rfl)) (w_of (x_var (pv 1) rfl))) (pg_sub (pv 0) x_int T.st)) rfl)
  (ss_one (s_retB (x_bin y_mod n_mod (w_of (x_t1 v_int n_int rfl (Y.free 1) hv_int (w_of (x_var (pv 3) rfl)))) (w_of (x_var (pv 1) rfl))) rfl)))) ss_nil)
  (ss_cons (s_setL (i := 0) (ps_asg (x_bin y_mod n_mod (w_of (x_t1 v_int n_int rfl (Y.free 1) hv_int (w_of (x_bin y_add n_add (w_of (x_bin y_add n_add (w_of (x_bin y_mul n_mul (w_of (x_idx T.ix (x_own (pv 0)) (w_of x_int))) (w_of x_int))) (w_of (x_bin y_mul n_mul (w_of (x_var (pv 3) rfl)) (w_of x_int))))) (w_of x_int))))) (w_of x_int)) (pg_sub (pv 0) x_int T.st)) rfl)
  (ss_one (s_retB (x_bin y_mod n_mod (w_of (x_bin y_fdiv n_fdiv (w_of (x_bin y_mod n_mod (w_of (x_t1 v_int n_int rfl (Y.free 1) hv_int (w_of (x_bin y_add n_add (w_of (x_bin y_mul n_mul (w_of (x_idx T.ix (x_own (pv 0)) (w_of x_int))) (w_of (x_idx T.ix (x_own (pv 0)) (w_of x_int))))) (w_of (x_bin y_mul n_mul (w_of (x_idx T.ix (x_own (pv 0)) (w_of x_int))) (w_of x_int))))))) (w_of x_int))) (w_of x_int))) (w_of (x_var (pv 1) rfl))) rfl))))))))
theorem S__law_any : FnScope N__law_any ["pool", "letters"] sc__law_any := ⟨rfl, rfl, rfl, by decide +kernel, rfl, by decide +kernel, by decide +kernel⟩
theorem cT_law_any (Y : Fs P w K mg) : CallT P w K mg base 2 "_law_any" d__law_any ["pool", "letters"] 2 m_law_any :=
  def_okT (d := d__law_any) (N := N__law_any) (ps := ["pool", "letters"]) (p := 2) (m := b__law_any) (k := 1) (ow := ow__law_any) (oN := owS []) (oB := owS []) (Y.def_ 10) (Y.glo 25) S__law_any rfl rfl (by decide) (fun _ _ _ _ _ _ us hl => match us, hl with | [_, _], _ => rfl) (fun cdv A outer s H E T => (c_cons (o1 := owS []) (s_up (s_set (ps_set (i := 2) T.nd rfl (Or.inl rfl) (x_own1 T (c_law_pick Y) (by decide) rfl (xa_cons (x_var (pv 0) rfl) (xa_cons x_int xa_nil)))) rfl) (owS_le (by decide)) (by decide))
  (c_cons (o1 := owS []) (s_up (s_set (ps_set (i := 3) T.nd rfl (Or.inr rfl) (x_bin y_add n_add (w_of x_int) (w_of (x_own1 T (c_law_pick Y) (by decide) rfl (xa_cons (x_var (pv 0) rfl) (xa_cons x_int xa_nil)))))) rfl) (owS_le (by decide)) (by decide))
  (c_cons (o1 := owS []) (c_if (t_cmp T.eq n_eq b_eq (w_of (x_var (pv 2) rfl)) (w_of x_int) rfl) (c_one (s_up (s_set (ps_set (i := 3) T.nd rfl (Or.inr rfl) (x_bin y_add n_add (w_of x_int) (w_of (x_own1 T (c_law_pick Y) (by decide) rfl (xa_cons (x_var (pv 0) rfl) (xa_cons x_int xa_nil)))))) rfl) (owS_le (by decide)) (by decide))) (c_cut (o1 := owS []) c_nil (owS_le (by decide)) (by decide)))
  (c_cons (o1 := owS []) (s_up (s_set (s_f (s_lc0 (i := 4) (own := [("letter", 9)]) T rfl rfl rfl (i_gr (i_rng1 rfl (Y.free 0) (x_var (pv 1) rfl))) (blkOk_by (N := N__law_any) (sc := sc__law_any) (own := [("letter", 9)]) (by decide +kernel)) (fun _ _ _ _ _ T1 => (g_nm (pg_name (i := 9) T1.nd rfl (Or.inl rfl)) rfl)) (fun _ _ _ _ _ T1 => ts_nil) (fun _ _ _ _ _ T1 => (x_own1 T1 (c_law_pick Y) (by decide) rfl (xa_cons (x_var (pv 0) rfl) (xa_cons x_int xa_nil)))) (by decide))) rfl) (owS_le (by decide)) (by decide))
  (c_cons (o1 := owS []) (s_up (s_set (ps_set (i := 5) T.nd rfl (Or.inr rfl) (x_own1 T (c_law_pick Y) (by decide) rfl (xa_cons (x_var (pv 0) rfl) (xa_cons (x_bin y_mul n_mul (w_of x_int) (w_of (x_var (pv 3) rfl))) xa_nil)))) rfl) (owS_le (by decide)) (by decide))
  (c_cons (o1 := owS [6]) (c_own (ps_set (i := 6) T.nd rfl (Or.inl rfl) (f_lst xa_nil)) rfl (owS_add (by decide)))
  (c_cons (o1 := owS [6, 7]) (c_own (ps_set (i := 7) T.nd rfl (Or.inl rfl) (f_lst xa_nil)) rfl (owS_add (by decide)))
  (c_cons (o1 := owS [6, 7]) (s_up (s_for T.po T.calm (i_rng1 rfl (Y.free 0) (x_var (pv 3) rfl)) (g_nm (pg_name (i := 8) T.nd rfl (Or.inr rfl)) rfl) (c_cons (o1 := owS [6, 7]) (c_if (t_cmp T.eq n_eq b_eq (w_of (x_var (pv 2) rfl)) (w_of x_int) rfl) (c_one (s_up (s_app1 (i := 6) (pv 6) (e_of (f_lc (own := [("letter", 9)]) T (i_gr (i_rng1 rfl (Y.free 0) (x_var (pv 1) rfl))) (blkOk_by (N := N__law_any) (sc := sc__law_any) (own := [("letter", 9)]) (by decide +kernel)) (fun _ _ _ _ _ T2 => (g_nm (pg_name (i := 9) T2.nd rfl (Or.inl rfl)) rfl)) (fun _ _ _ _ _ T2 => ts_nil) (fun _ _ _ _ _ T2 => (x_bin y_add n_add (w_of (x_var (pv 8) rfl)) (w_of (x_own1 T2 (c_law_pick Y) (by decide) rfl (xa_cons (x_var (pv 0) rfl) (xa_cons (x_bin y_sub n_sub (w_of (x_var (pv 3) rfl)) (w_of (x_var (pv 8) rfl))) xa_nil)))))) (by decide))) rfl) (owS_le (by decide)) (by decide))) (c_one (s_up (s_app1 (i := 6) (pv 6) (e_of (f_lc (own := [("letter", 9)]) T (i_gr (i_rng1 rfl (Y.free 0) (x_var (pv 1) rfl))) (blkOk_by (N := N__law_any) (sc := sc__law_any) (own := [("letter", 9)]) (by decide +kernel)) (fun _ _ _ _ _ T3 => (g_nm (pg_name (i := 9) T3.nd rfl (Or.inl rfl)) rfl)) (fun _ _ _ _ _ T3 => ts_nil) (fun _ _ _ _ _ T3 => (x_own1 T3 (c_law_pick Y) (by decide) rfl (xa_cons (x_var (pv 0) rfl) (xa_cons (x_var (pv 3) rfl) xa_nil)))) (by decide))) rfl) (owS_le (by decide)) (by decide))))
  (c_one (c_if (t_cmp T.eq n_eq b_eq (w_of (x_var (pv 2) rfl)) (w_of x_int) rfl) (c_one (s_up (s_app1 (i := 7) (pv 7) (e_of (f_lc (own := [("bit", 10)]) T (i_gr (i_seq (x_var (pv 4) rfl))) (blkOk_by (N := N__law_any) (sc := sc__law_any) (own := [("bit", 10)]) (by decide +kernel)) (fun _ _ _ _ _ T4 => (g_nm (pg_name (i := 10) T4.nd rfl (Or.inl rfl)) rfl)) (fun _ _ _ _ _ T4 => ts_nil) (fun _ _ _ _ _ T4 => (x_bin y_xor n_xor (w_of (x_var (pv 10) rfl)) (w_of (x_t1 v_int n_int rfl (Y.free 1) hv_int (w_of (x_cmp T4.eq n_eq (w_of (x_var (pv 8) rfl)) (w_of (x_var (pv 5) rfl)) rfl)))))) (by decide))) rfl) (owS_le (by decide)) (by decide))) (c_one (s_up (s_app1 (i := 7) (pv 7) (e_of (f_lc (own := [("letter", 9)]) T (i_gr (i_rng1 rfl (Y.free 0) (x_var (pv 1) rfl))) (blkOk_by (N := N__law_any) (sc := sc__law_any) (own := [("letter", 9)]) (by decide +kernel)) (fun _ _ _ _ _ T5 => (g_nm (pg_name (i := 9) T5.nd rfl (Or.inl rfl)) rfl)) (fun _ _ _ _ _ T5 => ts_nil) (fun _ _ _ _ _ T5 => (x_own1 T5 (c_law_pick Y) (by decide) rfl (xa_cons (x_var (pv 0) rfl) (xa_cons x_int xa_nil)))) (by decide))) rfl) (owS_le (by decide)) (by decide))))))) (owS_le (by decide)) (by decide))
  (c_one (c_stop (o1 := owS [6, 7]) nn_ret (s_up (s_ret2 (i := 6) (j := 7) (pv 6) (pv 7) rfl rfl (by decide)) (owS_le (by decide)) (by decide)))))))))))))
theorem S__law_chain : FnScope N__law_chain ["pool", "letters"] sc__law_chain := ⟨rfl, rfl, rfl, by decide +kernel, rfl, by decide +kernel, by decide +kernel⟩
theorem cT_law_chain (Y : Fs P w K mg) : CallT P w K mg base 2 "_law_chain" d__law_chain ["pool", "letters"] 2 m_law_chain :=
  def_okT (d := d__law_chain) (N := N__law_chain) (ps := ["pool", "letters"]) (p := 2) (m := b__law_chain) (k := 1) (ow := ow__law_chain) (oN := owS []) (oB := owS []) (Y.def_ 11) (Y.glo 26) S__law_chain rfl rfl (by decide) (fun _ _ _ _ _ _ us hl => match us, hl with | [_, _], _ => rfl) (fun cdv A outer s H E T => (c_cons (o1 := owS []) (s_up (s_set (ps_set (i := 2) T.nd rfl (Or.inl rfl) (x_own1 T (c_law_pick Y) (by decide) rfl (xa_cons (x_var (pv 0) rfl) (xa_cons x_int xa_nil)))) rfl) (owS_le (by decide)) (by decide))
  (c_cons (o1 := owS []) (c_if (t_cmp T.eq n_eq b_eq (w_of (x_own1 T (c_law_pick Y) (by decide) rfl (xa_cons (x_var (pv 0) rfl) (xa_cons x_int xa_nil)))) (w_of x_int) rfl) (c_one (s_up (s_set (ps_set (i := 2) T.nd rfl (Or.inl rfl) (x_own1 T (c_law_pick Y) (by decide) rfl (xa_cons (x_var (pv 0) rfl) (xa_cons x_int xa_nil)))) rfl) (owS_le (by decide)) (by decide))) (c_cut (o1 := owS []) c_nil (owS_le (by decide)) (by decide)))
  (c_cons (o1 := owS []) (s_up (s_set (ps_set (i := 3) T.nd rfl (Or.inl rfl) (x_bin y_add n_add (w_of x_int) (w_of (x_own1 T (c_law_pick Y) (by decide) rfl (xa_cons (x_var (pv 0) rfl) (xa_cons x_int xa_nil)))))) rfl) (owS_le (by decide)) (by decide))
  (c_cons (o1 := owS []) (s_up (s_set (ps_set (i := 4) T.nd rfl (Or.inl rfl) (x_own1 T (c_law_pick Y) (by decide) rfl (xa_cons (x_var (pv 0) rfl) (xa_cons (x_var (pv 1) rfl) xa_nil)))) rfl) (owS_le (by decide)) (by decide))
  (c_cons (o1 := owS []) (s_up (s_set (ps_set (i := 5) T.nd rfl (Or.inl rfl) (x_own1 T (c_law_pick Y) (by decide) rfl (xa_cons (x_var (pv 0) rfl) (xa_cons x_int xa_nil)))) rfl) (owS_le (by decide)) (by decide))
  (c_cons (o1 := owS []) (s_up (s_set (ps_set (i := 6) T.nd rfl (Or.inl rfl) (x_bin y_add n_add (w_of (x_var (pv 2) rfl)) (w_of (x_own1 T (c_law_pick Y) (by decide) rfl (xa_cons (x_var (pv 0) rfl) (xa_cons (x_bin y_mul n_mul (w_of x_int) (w_of (x_var (pv 3) rfl))) xa_nil)))))) rfl) (owS_le (by decide)) (by decide))
  (c_cons (o1 := owS [7]) (c_own (ps_set (i := 7) T.nd rfl (Or.inl rfl) (f_lst xa_nil)) rfl (owS_add (by decide)))
  (c_cons (o1 := owS [7, 8]) (c_own (ps_set (i := 8) T.nd rfl (Or.inl rfl) (f_lst xa_nil)) rfl (owS_add (by decide)))
  (c_cons (o1 := owS [7, 8]) (s_up (s_for T.po T.calm (i_rng1 rfl (Y.free 0) (x_var (pv 2) rfl)) (g_nm (pg_name (i := 9) T.nd rfl (Or.inr rfl)) rfl) (c_cons (o1 := owS [7, 8, 10]) (c_own (s_lc0 (i := 10) (own := [("letter", 12)]) T rfl rfl rfl (i_gr (i_rng1 rfl (Y.free 0) (x_var (pv 1) rfl))) (blkOk_by (N := N__law_chain) (sc := sc__law_chain) (own := [("letter", 12)]) (by decide +kernel)) (fun _ _ _ _ _ T1 => (g_nm (pg_name (i := 12) T1.nd rfl (Or.inl rfl)) rfl)) (fun _ _ _ _ _ T1 => ts_nil) (fun _ _ _ _ _ T1 => (x_var (pv 9) rfl)) (by decide)) rfl (owS_add (by decide)))
  (c_cons (o1 := owS [7, 8, 10]) (s_up (s_setL (i := 10) (ps_asg (x_bin y_add n_add (w_of (x_var (pv 9) rfl)) (w_of x_int)) (pg_sub (pv 10) (x_own1 T (c_law_pick Y) (by decide) rfl (xa_cons (x_var (pv 0) rfl) (xa_cons (x_var (pv 1) rfl) xa_nil))) T.st)) rfl) (owS_le (by decide)) (by decide))
  (c_cut (o1 := owS [7, 8]) (c_cons (o1 := owS [7, 8]) (s_up (s_app1 (i := 7) (pv 7) (x_var (pv 10) rfl) rfl) (owS_le (by decide)) (by decide))
  (c_one (s_up (s_app1 (i := 8) (pv 8) (e_of (f_lc (own := [("letter", 12)]) T (i_gr (i_rng1 rfl (Y.free 0) (x_var (pv 1) rfl))) (blkOk_by (N := N__law_chain) (sc := sc__law_chain) (own := [("letter", 12)]) (by decide +kernel)) (fun _ _ _ _ _ T2 => (g_nm (pg_name (i := 12) T2.nd rfl (Or.inl rfl)) rfl)) (fun _ _ _ _ _ T2 => ts_nil) (fun _ _ _ _ _ T2 => (x_own1 T2 (c_law_pick Y) (by decide) rfl (xa_cons (x_var (pv 0) rfl) (xa_cons x_int xa_nil)))) (by decide))) rfl) (owS_le (by decide)) (by decide)))) (owS_le (by decide)) (by decide))))) (owS_le (by decide)) (by decide))
  (c_cons (o1 := owS [7, 8]) (s_up (s_for T.po T.calm (i_rng2 rfl (Y.free 0) (x_var (pv 2) rfl) (x_bin y_add n_add (w_of (x_var (pv 2) rfl)) (w_of (x_var (pv 3) rfl)))) (g_nm (pg_name (i := 9) T.nd rfl (Or.inr rfl)) rfl) (c_cons (o1 := owS [7, 8, 10]) (c_own (s_lc0 (i := 10) (own := [("letter", 12)]) T rfl rfl rfl (i_gr (i_rng1 rfl (Y.free 0) (x_var (pv 1) rfl))) (blkOk_by (N := N__law_chain) (sc := sc__law_chain) (own := [("letter", 12)]) (by decide +kernel)) (fun _ _ _ _ _ T3 => (g_nm (pg_name (i := 12) T3.nd rfl (Or.inl rfl)) rfl)) (fun _ _ _ _ _ T3 => ts_nil) (fun _ _ _ _ _ T3 => (x_var (pv 9) rfl)) (by decide)) rfl (owS_add (by decide)))
  (c_cons (o1 := owS [7, 8, 10]) (s_up (s_setL (i := 10) (ps_asg (x_bin y_add n_add (w_of (x_var (pv 2) rfl)) (w_of (x_bin y_mod n_mod (w_of (x_t1 v_int n_int rfl (Y.free 1) hv_int (w_of (x_bin y_add n_add (w_of (x_bin y_sub n_sub (w_of (x_var (pv 9) rfl)) (w_of (x_var (pv 2) rfl)))) (w_of x_int))))) (w_of (x_var (pv 3) rfl))))) (pg_sub (pv 10) (x_var (pv 4) rfl) T.st)) rfl) (owS_le (by decide)) (by decide))
  (c_cut (o1 := owS [7, 8]) (c_cons (o1 := owS [7, 8]) (s_up (s_app1 (i := 7) (pv 7) (x_var (pv 10) rfl) rfl) (owS_le (by decide)) (by decide))
  (c_cons (o1 := owS [7, 8, 11]) (c_own (s_lc0 (i := 11) (own := [("letter", 12)]) T rfl rfl rfl (i_gr (i_rng1 rfl (Y.free 0) (x_var (pv 1) rfl))) (blkOk_by (N := N__law_chain) (sc := sc__law_chain) (own := [("letter", 12)]) (by decide +kernel)) (fun _ _ _ _ _ T4 => (g_nm (pg_name (i := 12) T4.nd rfl (Or.inl rfl)) rfl)) (fun _ _ _ _ _ T4 => ts_nil) (fun _ _ _ _ _ T4 => (x_own1 T4 (c_law_pick Y) (by decide) rfl (xa_cons (x_var (pv 0) rfl) (xa_cons x_int xa_nil)))) (by decide)) rfl (owS_add (by decide)))
  (c_cons (o1 := owS [7, 8, 11]) (s_up (s_setL (i := 11) (ps_asg (x_bin y_xor n_xor (w_of (x_var (pv 5) rfl)) (w_of (x_t1 v_int n_int rfl (Y.free 1) hv_int (w_of (x_cmp T.eq n_eq (w_of (x_var (pv 9) rfl)) (w_of (x_var (pv 6) rfl)) rfl))))) (pg_sub (pv 11) (x_var (pv 4) rfl) T.st)) rfl) (owS_le (by decide)) (by decide))
  (c_cut (o1 := owS [7, 8]) (c_one (s_up (s_app1 (i := 8) (pv 8) (x_var (pv 11) rfl) rfl) (owS_le (by decide)) (by decide))) (owS_le (by decide)) (by decide))))) (owS_le (by decide)) (by decide))))) (owS_le (by decide)) (by decide))
  (c_one (c_stop (o1 := owS [7, 8]) nn_ret (s_up (s_ret2 (i := 7) (j := 8) (pv 7) (pv 8) rfl rfl (by decide)) (owS_le (by decide)) (by decide)))))))))))))))
theorem S__law_machine : FnScope N__law_machine ["pool", "letters"] sc__law_machine := ⟨rfl, rfl, rfl, by decide +kernel, rfl, by decide +kernel, by decide +kernel⟩
theorem c_law_machine (Y : Fs P w K mg) : CallOk P w K mg base 3 "_law_machine" d__law_machine ["pool", "letters"] 2 m_law_machine :=
  def_ok (d := d__law_machine) (N := N__law_machine) (ps := ["pool", "letters"]) (p := 2) (m := b__law_machine) (k := 2) (ow := ow__law_machine) (oN := owS []) (oB := owS []) (Y.def_ 12) (Y.glo 27) S__law_machine rfl rfl (by decide) (fun _ _ _ _ _ _ us hl => match us, hl with | [_, _], _ => rfl) (fun cdv A outer s H E T => (c_cons (o1 := owS [2, 3]) (c_if (t_cmp T.eq n_eq b_eq (w_of (x_own1 T (c_law_pick Y) (by decide) rfl (xa_cons (x_var (pv 0) rfl) (xa_cons x_int xa_nil)))) (w_of x_int) rfl) (c_one (c_own2 (i := 2) (l := 3) (ps_asg (f_own2 T (cT_law_any Y) (by decide) rfl (xa_cons (x_var (pv 0) rfl) (xa_cons (x_var (pv 1) rfl) xa_nil))) (pg_tup T.calm (pgs_cons (pg_name (i := 2) T.nd rfl (Or.inl rfl)) (pgs_cons (pg_name (i := 3) T.nd rfl (Or.inl rfl)) pgs_nil)))) rfl rfl (by decide) (owS_add2 (by decide)))) (c_one (c_own2 (i := 2) (l := 3) (ps_asg (f_own2 T (cT_law_chain Y) (by decide) rfl (xa_cons (x_var (pv 0) rfl) (xa_cons (x_var (pv 1) rfl) xa_nil))) (pg_tup T.calm (pgs_cons (pg_name (i := 2) T.nd rfl (Or.inl rfl)) (pgs_cons (pg_name (i := 3) T.nd rfl (Or.inl rfl)) pgs_nil)))) rfl rfl (by decide) (owS_add2 (by decide)))))
  (c_cons (o1 := owS [2, 3]) (s_up (s_set (ps_set (i := 4) T.nd rfl (Or.inr rfl) (x_b1 v_len n_len rfl (Y.free 4) hv_len (x_own (pv 2)))) rfl) (owS_le (by decide)) (by decide))
  (c_cons (o1 := owS []) (c_if (PW.pt (t_and (t_cmp T.eq n_eq b_eq (w_of (x_own1 T (c_law_pick Y) (by decide) rfl (xa_cons (x_var (pv 0) rfl) (xa_cons x_int xa_nil)))) (w_of x_int) rfl) (t_and1 (t_cmp y_le n_le b_le (w_of (x_var (pv 4) rfl)) (w_of x_int) rfl)))) (c_cons (o1 := owS [2, 3]) (s_up (s_app1 (i := 2) (pv 2) (e_of (f_lc (own := [("letter", 7)]) T (i_gr (i_rng1 rfl (Y.free 0) (x_var (pv 1) rfl))) (blkOk_by (N := N__law_machine) (sc := sc__law_machine) (own := [("letter", 7)]) (by decide +kernel)) (fun _ _ _ _ _ T1 => (g_nm (pg_name (i := 7) T1.nd rfl (Or.inl rfl)) rfl)) (fun _ _ _ _ _ T1 => ts_nil) (fun _ _ _ _ _ T1 => (x_bin y_add n_add (w_of (x_var (pv 4) rfl)) (w_of x_int))) (by decide))) rfl) (owS_le (by decide)) (by decide))
  (c_cons (o1 := owS [2, 3]) (s_up (s_app1 (i := 2) (pv 2) (e_of (f_lc (own := [("letter", 7)]) T (i_gr (i_rng1 rfl (Y.free 0) (x_var (pv 1) rfl))) (blkOk_by (N := N__law_machine) (sc := sc__law_machine) (own := [("letter", 7)]) (by decide +kernel)) (fun _ _ _ _ _ T2 => (g_nm (pg_name (i := 7) T2.nd rfl (Or.inl rfl)) rfl)) (fun _ _ _ _ _ T2 => ts_nil) (fun _ _ _ _ _ T2 => (x_var (pv 4) rfl)) (by decide))) rfl) (owS_le (by decide)) (by decide))
  (c_cons (o1 := owS [2, 3]) (s_up (s_app1 (i := 2) (pv 2) (e_of (f_lc (own := [("letter", 7)]) T (i_gr (i_rng1 rfl (Y.free 0) (x_var (pv 1) rfl))) (blkOk_by (N := N__law_machine) (sc := sc__law_machine) (own := [("letter", 7)]) (by decide +kernel)) (fun _ _ _ _ _ T3 => (g_nm (pg_name (i := 7) T3.nd rfl (Or.inl rfl)) rfl)) (fun _ _ _ _ _ T3 => ts_nil) (fun _ _ _ _ _ T3 => (x_own1 T3 (c_law_pick Y) (by decide) rfl (xa_cons (x_var (pv 0) rfl) (xa_cons (x_bin y_add n_add (w_of (x_var (pv 4) rfl)) (w_of x_int)) xa_nil)))) (by decide))) rfl) (owS_le (by decide)) (by decide))
  (c_cut (o1 := owS [3]) (c_cons (o1 := owS [3]) (s_up (s_app1 (i := 3) (pv 3) (e_of (f_lc (own := [("letter", 7)]) T (i_gr (i_rng1 rfl (Y.free 0) (x_var (pv 1) rfl))) (blkOk_by (N := N__law_machine) (sc := sc__law_machine) (own := [("letter", 7)]) (by decide +kernel)) (fun _ _ _ _ _ T4 => (g_nm (pg_name (i := 7) T4.nd rfl (Or.inl rfl)) rfl)) (fun _ _ _ _ _ T4 => ts_nil) (fun _ _ _ _ _ T4 => x_int) (by decide))) rfl) (owS_le (by decide)) (by decide))
  (c_cons (o1 := owS [3]) (s_up (s_app1 (i := 3) (pv 3) (e_of (f_lc (own := [("letter", 7)]) T (i_gr (i_rng1 rfl (Y.free 0) (x_var (pv 1) rfl))) (blkOk_by (N := N__law_machine) (sc := sc__law_machine) (own := [("letter", 7)]) (by decide +kernel)) (fun _ _ _ _ _ T5 => (g_nm (pg_name (i := 7) T5.nd rfl (Or.inl rfl)) rfl)) (fun _ _ _ _ _ T5 => ts_nil) (fun _ _ _ _ _ T5 => x_int) (by decide))) rfl) (owS_le (by decide)) (by decide))
  (c_one (c_end (o1 := owS [3]) (s_up (s_app1 (i := 3) (pv 3) (e_of (f_lc (own := [("letter", 7)]) T (i_gr (i_rng1 rfl (Y.free 0) (x_var (pv 1) rfl))) (blkOk_by (N := N__law_machine) (sc := sc__law_machine) (own := [("letter", 7)]) (by decide +kernel)) (fun _ _ _ _ _ T6 => (g_nm (pg_name (i := 7) T6.nd rfl (Or.inl rfl)) rfl)) (fun _ _ _ _ _ T6 => ts_nil) (fun _ _ _ _ _ T6 => (x_own1 T6 (c_law_pick Y) (by decide) rfl (xa_cons (x_var (pv 0) rfl) (xa_cons x_int xa_nil)))) (by decide))) rfl) (owS_le (by decide)) (by decide)) (owS_le (by decide)) (by decide))))) (owS_le (by decide)) (by decide))))) (c_cut (o1 := owS []) c_nil (owS_le (by decide)) (by decide)))
  (c_one (s_up (s_ret (x_tup (xa_cons (e_of (f_lc (own := [("leads", 5)]) T (i_gr (i_seq (x_var (pv 2) rfl))) (blkOk_by (N := N__law_machine) (sc := sc__law_machine) (own := [("leads", 5)]) (by decide +kernel)) (fun _ _ _ _ _ T8 => (g_nm (pg_name (i := 5) T8.nd rfl (Or.inl rfl)) rfl)) (fun _ _ _ _ _ T8 => ts_nil) (fun _ _ _ _ _ T8 => (x_t1 v_tuple n_tuple rfl (Y.free 3) hv_tuple (w_of (x_var (pv 5) rfl)))) (by decide))) (xa_cons (e_of (f_lc (own := [("told", 6)]) T (i_gr (i_seq (x_var (pv 3) rfl))) (blkOk_by (N := N__law_machine) (sc := sc__law_machine) (own := [("told", 6)]) (by decide +kernel)) (fun _ _ _ _ _ T7 => (g_nm (pg_name (i := 6) T7.nd rfl (Or.inl rfl)) rfl)) (fun _ _ _ _ _ T7 => ts_nil) (fun _ _ _ _ _ T7 => (x_t1 v_tuple n_tuple rfl (Y.free 3) hv_tuple (w_of (x_var (pv 6) rfl)))) (by decide))) xa_nil)))) (owS_le (by decide)) (by decide)))))))
theorem S__law_letter : FnScope N__law_letter ["numbers", "place"] sc__law_letter := ⟨rfl, rfl, rfl, by decide +kernel, rfl, by decide +kernel, by decide +kernel⟩
theorem c_law_letter (Y : Fs P w K mg) : CallOk P w K mg base 1 "_law_letter" d__law_letter ["numbers", "place"] 2 m_law_letter :=
  def_ok (d := d__law_letter) (N := N__law_letter) (ps := ["numbers", "place"]) (p := 2) (m := b__law_letter) (k := 0) (ow := ow__law_letter) (Y.def_ 13) (Y.glo 28) S__law_letter rfl rfl (by decide) (fun _ _ _ _ _ _ us hl => match us, hl with | [_, _], _ => rfl) (fun cdv A outer s H E T => (ss_cons (s_set (ps_set (i := 2) T.nd rfl (Or.inl rfl) x_int) rfl)
  (ss_cons (s_for T.po T.calm (i_rng1 rfl (Y.free 0) (x_b1 v_len n_len rfl (Y.free 4) hv_len (w_of (x_var (pv 0) rfl)))) (g_nm (pg_name (i := 3) T.nd rfl (Or.inl rfl)) rfl) (ss_one (s_set (ps_set (i := 2) T.nd rfl (Or.inl rfl) (x_bin y_add n_add (w_of (x_var (pv 2) rfl)) (w_of (x_bin y_shl n_shl (w_of (x_bin y_and n_and (w_of (x_bin y_shr n_shr (w_of (x_idx T.ix (w_of (x_var (pv 0) rfl)) (w_of (x_var (pv 3) rfl)))) (w_of (x_var (pv 1) rfl)))) (w_of x_int))) (w_of (x_var (pv 3) rfl)))))) rfl)))
  (ss_one (s_ret (x_var (pv 2) rfl))))))
theorem S__law_no_end : FnScope N__law_no_end ["nexts", "outs", "numbers"] sc__law_no_end := ⟨rfl, rfl, rfl, by decide +kernel, rfl, by decide +kernel, by decide +kernel⟩
theorem c_law_no_end (Y : Fs P w K mg) : CallOk P w K mg base 2 "_law_no_end" d__law_no_end ["nexts", "outs", "numbers"] 3 m_law_no_end :=
  def_ok (d := d__law_no_end) (N := N__law_no_end) (ps := ["nexts", "outs", "numbers"]) (p := 3) (m := b__law_no_end) (k := 1) (ow := ow__law_no_end) (Y.def_ 14) (Y.glo 29) S__law_no_end rfl rfl (by decide) (fun _ _ _ _ _ _ us hl => match us, hl with | [_, _, _], _ => rfl) (fun cdv A outer s H E T => (ss_cons (s_set (ps_set (i := 3) T.nd rfl (Or.inl rfl) x_int) rfl)
  (ss_cons (s_set (ps_set (i := 4) T.nd rfl (Or.inl rfl) (x_bin y_add n_add (w_of x_int) (w_of (x_b1 v_len n_len rfl (Y.free 4) hv_len (w_of (x_var (pv 0) rfl)))))) rfl)
  (ss_cons (s_for T.po T.calm (i_rng1 rfl (Y.free 0) (x_var (pv 4) rfl)) (g_nm (pg_name (i := 5) T.nd rfl (Or.inl rfl)) rfl) (ss_one (s_set (ps_set (i := 3) T.nd rfl (Or.inl rfl) (x_idx T.ix (w_of (x_idx T.ix (w_of (x_var (pv 0) rfl)) (w_of (x_var (pv 3) rfl)))) (w_of (x_own1 T (c_law_letter Y) (by decide) rfl (xa_cons (x_var (pv 2) rfl) (xa_cons (x_var (pv 5) rfl) xa_nil)))))) rfl)))
  (ss_cons (s_set (ps_set (i := 6) T.nd rfl (Or.inl rfl) (x_own1 T (c_law_letter Y) (by decide) rfl (xa_cons (x_var (pv 2) rfl) (xa_cons (x_var (pv 4) rfl) xa_nil)))) rfl)
  (ss_cons (s_set (ps_set (i := 7) T.nd rfl (Or.inl rfl) (x_idx T.ix (w_of (x_idx T.ix (w_of (x_var (pv 1) rfl)) (w_of (x_var (pv 3) rfl)))) (w_of (x_var (pv 6) rfl)))) rfl)
  (ss_cons (s_for T.po T.calm (i_rng1 rfl (Y.free 0) (x_b1 v_len n_len rfl (Y.free 4) hv_len (w_of (x_var (pv 0) rfl)))) (g_nm (pg_name (i := 8) T.nd rfl (Or.inl rfl)) rfl) (ss_cons (s_if (t_cmp T.ne n_ne b_ne (w_of (x_idx T.ix (w_of (x_idx T.ix (w_of (x_var (pv 1) rfl)) (w_of (x_var (pv 3) rfl)))) (w_of (x_var (pv 6) rfl)))) (w_of (x_var (pv 7) rfl)) rfl) (ss_one (s_ret x_bl)) ss_nil)
  (ss_one (s_set (ps_set (i := 3) T.nd rfl (Or.inl rfl) (x_idx T.ix (w_of (x_idx T.ix (w_of (x_var (pv 0) rfl)) (w_of (x_var (pv 3) rfl)))) (w_of (x_var (pv 6) rfl)))) rfl))))
  (ss_one (s_ret x_bl)))))))))
theorem S__law_right : FnScope N__law_right ["answer", "inputs", "nexts", "outs"] sc__law_right := ⟨rfl, rfl, rfl, by decide +kernel, rfl, by decide +kernel, by decide +kernel⟩
theorem c_law_right (Y : Fs P w K mg) : CallOk P w K mg base 3 "_law_right" d__law_right ["answer", "inputs", "nexts", "outs"] 4 m_law_right :=
  def_ok (d := d__law_right) (N := N__law_right) (ps := ["answer", "inputs", "nexts", "outs"]) (p := 4) (m := b__law_right) (k := 2) (ow := ow__law_right) (Y.def_ 15) (Y.glo 30) S__law_right rfl rfl (by decide) (fun _ _ _ _ _ _ us hl => match us, hl with | [_, _, _, _], _ => rfl) (fun cdv A outer s H E T => (ss_cons (s_if (PW.pt (t_or (t_not (t_tst (w_of (x_isi1 (cs := CS) (t := .tup) rfl (kit_of_b (Y.more 3)) rfl (Y.free 5) (w_of (x_var (pv 0) rfl)) (pe_bltn rfl (Y.free 3) hv_tuple rfl))) (by intro _; rfl))) (t_or1 (t_cmp T.ne n_ne b_ne (w_of (x_b1 v_len n_len rfl (Y.free 4) hv_len (w_of (x_var (pv 0) rfl)))) (w_of (x_var (pv 1) rfl)) rfl)))) (ss_one (s_ret x_bl)) ss_nil)
  (ss_cons (s_for T.po T.calm (i_seq (x_var (pv 0) rfl)) (g_nm (pg_name (i := 4) T.nd rfl (Or.inl rfl)) rfl) (ss_cons (s_if (PW.pt (t_or (t_not (t_tst (w_of (x_isi1 (cs := CS) (t := .int) rfl (kit_of_b (Y.more 3)) rfl (Y.free 5) (w_of (x_var (pv 4) rfl)) (pe_bltn rfl (Y.free 1) hv_int rfl))) (by intro _; rfl))) (t_or1 (t_tst (w_of (x_isi1 (cs := CS) (t := .bl) rfl (kit_of_b (Y.more 3)) rfl (Y.free 5) (w_of (x_var (pv 4) rfl)) (pe_bltn rfl (Y.free 6) hv_bool rfl))) (by intro _; rfl))))) (ss_one (s_ret x_bl)) ss_nil)
  (ss_one (s_if (PW.pt (t_or (t_cmp y_lt n_lt b_lt (w_of (x_var (pv 4) rfl)) (w_of (x_un y_neg n_neg (w_of (x_bin y_shl n_shl (w_of x_int) (w_of x_int))))) rfl) (t_or1 (t_cmp y_gt n_gt b_gt (w_of (x_var (pv 4) rfl)) (w_of (x_bin y_shl n_shl (w_of x_int) (w_of x_int))) rfl)))) (ss_one (s_ret x_bl)) ss_nil))))
  (ss_one (s_ret (x_own1 T (c_law_no_end Y) (by decide) rfl (xa_cons (x_var (pv 2) rfl) (xa_cons (x_var (pv 3) rfl) (xa_cons (x_var (pv 0) rfl) xa_nil)))))))))
theorem S_Machine_len : FnScope N_Machine_len ["self"] sc_Machine_len := ⟨rfl, rfl, rfl, by decide +kernel, rfl, by decide +kernel, by decide +kernel⟩
theorem c_Machine_len (Y : Fs P w K mg) : MethOk P w K mg base 1 "Machine" "__len__" 1 m_Machine_len :=
  meth_def (d := d_Machine_len) (N := N_Machine_len) (ps := ["self"]) (p := 1) (m := b_Machine_len) (k := 0) (ow := ow_Machine_len) (Y.def_ 16) (Y.cls 31) (Y.meth 32) S_Machine_len rfl rfl (by decide) (fun _ _ _ _ _ _ us hl => match us, hl with | [_], _ => rfl) (fun cdv A outer s H E T => (ss_one (s_ret (x_b1 v_len n_len rfl (Y.free 4) hv_len (w_of (x_attr (att_ok (Y.more 1)) (w_of (x_var (pv 0) rfl))))))))
theorem S_letters_of : FnScope N_letters_of ["machine"] sc_letters_of := ⟨rfl, rfl, rfl, by decide +kernel, rfl, by decide +kernel, by decide +kernel⟩
theorem c_letters_of (Y : Fs P w K mg) : CallOk P w K mg base 1 "letters_of" d_letters_of ["machine"] 1 m_letters_of :=
  def_ok (d := d_letters_of) (N := N_letters_of) (ps := ["machine"]) (p := 1) (m := b_letters_of) (k := 0) (ow := ow_letters_of) (Y.def_ 17) (Y.glo 11) S_letters_of rfl rfl (by decide) (fun _ _ _ _ _ _ us hl => match us, hl with | [_], _ => rfl) (fun cdv A outer s H E T => (ss_one (s_ret (e_of (f_lrng1 T.calm rfl (Y.free 2) rfl (Y.free 0) (x_bin y_shl n_shl (w_of x_int) (w_of (x_attr (att_ok (Y.more 0)) (w_of (x_var (pv 0) rfl))))))))))
theorem S_first_readings : FnScope N_first_readings ["machine"] sc_first_readings := ⟨rfl, rfl, rfl, by decide +kernel, rfl, by decide +kernel, by decide +kernel⟩
theorem c_first_readings (Y : Fs P w K mg) : CallOk P w K mg base 2 "first_readings" d_first_readings ["machine"] 1 m_first_readings :=
  def_ok (d := d_first_readings) (N := N_first_readings) (ps := ["machine"]) (p := 1) (m := b_first_readings) (k := 1) (ow := ow_first_readings) (oN := owS []) (oB := owS []) (Y.def_ 18) (Y.glo 33) S_first_readings rfl rfl (by decide) (fun _ _ _ _ _ _ us hl => match us, hl with | [_], _ => rfl) (fun cdv A outer s H E T => (c_cons (o1 := owS [1]) (c_own (ps_set (i := 1) T.nd rfl (Or.inr rfl) (f_dicK x_int (x_tup xa_nil))) rfl (owS_add (by decide)))
  (c_cons (o1 := owS [1, 2]) (c_own (ps_set (i := 2) T.nd rfl (Or.inl rfl) (f_lst (xa_cons x_int xa_nil))) rfl (owS_add (by decide)))
  (c_cons (o1 := owS [1, 2]) (s_up (s_set (ps_set (i := 3) T.nd rfl (Or.inl rfl) x_int) rfl) (owS_le (by decide)) (by decide))
  (c_cons (o1 := owS [1, 2]) (s_up (s_while T.po (t_cmp y_lt n_lt b_lt (w_of (x_var (pv 3) rfl)) (w_of (x_b1 v_len n_len rfl (Y.free 4) hv_len (x_own (pv 2)))) rfl) (c_cons (o1 := owS [1, 2]) (s_up (s_set (ps_set (i := 4) T.nd rfl (Or.inl rfl) (x_idx T.ix (x_own (pv 2)) (w_of (x_var (pv 3) rfl)))) rfl) (owS_le (by decide)) (by decide))
  (c_cons (o1 := owS [1, 2]) (s_up (s_for T.po T.calm (i_seq (x_own1 T (CallOk.alias (x := "letters_of") (y := "letters_of_search") (c_letters_of Y) (Y.more 4) (Y.glo 11) (Y.glo 12)) (by decide) rfl (xa_cons (x_var (pv 0) rfl) xa_nil))) (g_nm (pg_name (i := 5) T.nd rfl (Or.inl rfl)) rfl) (c_cons (o1 := owS [1, 2]) (s_up (s_set (ps_set (i := 6) T.nd rfl (Or.inl rfl) (x_idx T.ix (w_of (x_idx T.ix (w_of (x_attr (att_ok (Y.more 1)) (w_of (x_var (pv 0) rfl)))) (w_of (x_var (pv 4) rfl)))) (w_of (x_var (pv 5) rfl)))) rfl) (owS_le (by decide)) (by decide))
  (c_one (c_if (t_cmp T.nin n_notin b_notin (w_of (x_var (pv 6) rfl)) (x_own (pv 1)) rfl) (c_cons (o1 := owS [1, 2]) (s_up (s_setL (i := 1) (ps_asg (x_bin y_add n_add (w_of (x_idx T.ix (x_own (pv 1)) (w_of (x_var (pv 4) rfl)))) (w_of (x_tup (xa_cons (x_var (pv 5) rfl) xa_nil)))) (pg_sub (pv 1) (x_var (pv 6) rfl) T.st)) rfl) (owS_le (by decide)) (by decide))
  (c_one (s_up (s_app1 (i := 2) (pv 2) (x_var (pv 6) rfl) rfl) (owS_le (by decide)) (by decide)))) (c_cut (o1 := owS [1, 2]) c_nil (owS_le (by decide)) (by decide)))))) (owS_le (by decide)) (by decide))
  (c_one (s_up (s_aug (ps_aug (i := 3) T.nd rfl (Or.inl rfl) (w_of x_int) ip_add) rfl h_iadd n_iadd rfl) (owS_le (by decide)) (by decide)))))) (owS_le (by decide)) (by decide))
  (c_cut (o1 := owS []) (c_one (s_up (s_ret (e_of (f_lc (own := [("state", 4)]) T (i_gr (i_rng1 rfl (Y.free 0) (x_b1 v_len n_len rfl (Y.free 4) hv_len (w_of (x_attr (att_ok (Y.more 1)) (w_of (x_var (pv 0) rfl))))))) (blkOk_by (N := N_first_readings) (sc := sc_first_readings) (own := [("state", 4)]) (by decide +kernel)) (fun _ _ _ _ _ T1 => (g_nm (pg_name (i := 4) T1.nd rfl (Or.inl rfl)) rfl)) (fun _ _ _ _ _ T1 => ts_nil) (fun _ _ _ _ _ T1 => (x_idx T1.ix (w_of (x_var (pv 1) rfl)) (w_of (x_var (pv 4) rfl)))) (by decide)))) (owS_le (by decide)) (by decide))) (owS_le (by decide)) (by decide)))))))
theorem S_numbered : FnScope N_numbered ["keys"] sc_numbered := ⟨rfl, rfl, rfl, by decide +kernel, rfl, by decide +kernel, by decide +kernel⟩
theorem c_numbered (Y : Fs P w K mg) : CallOk P w K mg base 1 "numbered" d_numbered ["keys"] 1 m_numbered :=
  def_ok (d := d_numbered) (N := N_numbered) (ps := ["keys"]) (p := 1) (m := b_numbered) (k := 0) (ow := ow_numbered) (oN := owS []) (oB := owS []) (Y.def_ 19) (Y.glo 34) S_numbered rfl rfl (by decide) (fun _ _ _ _ _ _ us hl => match us, hl with | [_], _ => rfl) (fun cdv A outer s H E T => (c_cons (o1 := owS [1]) (c_own (ps_set (i := 1) T.nd rfl (Or.inl rfl) (f_dic0 true)) rfl (owS_add (by decide)))
  (c_cons (o1 := owS [1, 2]) (c_own (ps_set (i := 2) T.nd rfl (Or.inl rfl) (f_lst xa_nil)) rfl (owS_add (by decide)))
  (c_cons (o1 := owS [1, 2]) (s_up (s_for T.po T.calm (i_seq (x_var (pv 0) rfl)) (g_nm (pg_name (i := 3) T.nd rfl (Or.inl rfl)) rfl) (c_cons (o1 := owS [1, 2]) (c_if (t_cmp T.nin n_notin b_notin (w_of (x_var (pv 3) rfl)) (x_own (pv 1)) rfl) (c_one (s_up (s_setL (i := 1) (ps_asg (x_b1 v_len n_len rfl (Y.free 4) hv_len (x_own (pv 1))) (pg_sub (pv 1) (x_var (pv 3) rfl) T.st)) rfl) (owS_le (by decide)) (by decide))) (c_cut (o1 := owS [1, 2]) c_nil (owS_le (by decide)) (by decide)))
  (c_one (s_up (s_app1 (i := 2) (pv 2) (x_idx T.ix (x_own (pv 1)) (w_of (x_var (pv 3) rfl))) rfl) (owS_le (by decide)) (by decide))))) (owS_le (by decide)) (by decide))
  (c_cut (o1 := owS []) (c_one (s_up (s_ret (x_var (pv 2) rfl)) (owS_le (by decide)) (by decide))) (owS_le (by decide)) (by decide))))))
theorem S_state_classes : FnScope N_state_classes ["machine"] sc_state_classes := ⟨rfl, rfl, rfl, by decide +kernel, rfl, by decide +kernel, by decide +kernel⟩
theorem c_state_classes (Y : Fs P w K mg) : CallOk P w K mg base 2 "state_classes" d_state_classes ["machine"] 1 m_state_classes :=
  def_ok (d := d_state_classes) (N := N_state_classes) (ps := ["machine"]) (p := 1) (m := b_state_classes) (k := 1) (ow := ow_state_classes) (oN := owS []) (oB := owS []) (Y.def_ 20) (Y.glo 35) S_state_classes rfl rfl (by decide) (fun _ _ _ _ _ _ us hl => match us, hl with | [_], _ => rfl) (fun cdv A outer s H E T => (c_cons (o1 := owS []) (s_up (s_set (ps_set (i := 1) T.nd rfl (Or.inr rfl) (x_own1 T (c_numbered Y) (by decide) rfl (xa_cons (e_of (f_list rfl rfl (Y.free 2) (w_of (x_attr (att_ok (Y.more 2)) (w_of (x_var (pv 0) rfl)))))) xa_nil))) rfl) (owS_le (by decide)) (by decide))
  (c_one (s_up (s_while T.po (t_tst (w_of x_bl) (by intro _; rfl)) (c_cons (o1 := owS [2]) (c_own (ps_set (i := 2) T.nd rfl (Or.inl rfl) (f_lst xa_nil)) rfl (owS_add (by decide)))
  (c_cons (o1 := owS [2]) (s_up (s_for T.po T.calm (i_enum rfl (Y.free 7) (x_attr (att_ok (Y.more 1)) (w_of (x_var (pv 0) rfl)))) (g_tup T.calm (gs_cons (g_nm (pg_name (i := 3) T.nd rfl (Or.inl rfl)) rfl) (gs_cons (g_nm (pg_name (i := 4) T.nd rfl (Or.inl rfl)) rfl) gs_nil))) (c_one (s_up (s_app1 (i := 2) (pv 2) (x_tup (xa_cons (x_idx T.ix (w_of (x_var (pv 1) rfl)) (w_of (x_var (pv 3) rfl))) (xa_cons (x_t1 v_tuple n_tuple rfl (Y.free 3) hv_tuple (w_of (e_of (f_lc (own := [("goal", 6)]) T (i_gr (i_seq (x_var (pv 4) rfl))) (blkOk_by (N := N_state_classes) (sc := sc_state_classes) (own := [("goal", 6)]) (by decide +kernel)) (fun _ _ _ _ _ T1 => (g_nm (pg_name (i := 6) T1.nd rfl (Or.inl rfl)) rfl)) (fun _ _ _ _ _ T1 => ts_nil) (fun _ _ _ _ _ T1 => (x_idx T1.ix (w_of (x_var (pv 1) rfl)) (w_of (x_var (pv 6) rfl)))) (by decide))))) xa_nil))) rfl) (owS_le (by decide)) (by decide)))) (owS_le (by decide)) (by decide))
  (c_cut (o1 := owS []) (c_cons (o1 := owS []) (s_up (s_set (ps_set (i := 5) T.nd rfl (Or.inl rfl) (x_own1 T (c_numbered Y) (by decide) rfl (xa_cons (x_var (pv 2) rfl) xa_nil))) rfl) (owS_le (by decide)) (by decide))
  (c_cons (o1 := owS []) (c_if (t_cmp T.eq n_eq b_eq (w_of (x_b1 (v_maxL T.calm) n_maxL rfl (Y.free 10) hv_max (w_of (x_var (pv 5) rfl)))) (w_of (x_b1 (v_maxL T.calm) n_maxL rfl (Y.free 10) hv_max (w_of (x_var (pv 1) rfl)))) rfl) (c_one (s_up (s_ret (x_var (pv 1) rfl)) (owS_le (by decide)) (by decide))) (c_cut (o1 := owS []) c_nil (owS_le (by decide)) (by decide)))
  (c_one (s_up (s_set (ps_set (i := 1) T.nd rfl (Or.inr rfl) (x_var (pv 5) rfl)) rfl) (owS_le (by decide)) (by decide))))) (owS_le (by decide)) (by decide))))) (owS_le (by decide)) (by decide)))))
theorem S_least_machine : FnScope N_least_machine ["machine"] sc_least_machine := ⟨rfl, rfl, rfl, by decide +kernel, rfl, by decide +kernel, by decide +kernel⟩
theorem c_least_machine (Y : Fs P w K mg) : CallOk P w K mg base 7 "least_machine" d_least_machine ["machine"] 1 m_least_machine :=
  def_ok (d := d_least_machine) (N := N_least_machine) (ps := ["machine"]) (p := 1) (m := b_least_machine) (k := 6) (ow := ow_least_machine) (oN := owS []) (oB := owS []) (Y.def_ 21) (Y.glo 36) S_least_machine rfl rfl (by decide) (fun _ _ _ _ _ _ us hl => match us, hl with | [_], _ => rfl) (fun cdv A outer s H E T => (c_cons (o1 := owS []) (s_up (s_set (ps_set (i := 1) T.nd rfl (Or.inl rfl) (x_own1 T (c_state_classes Y) (by decide) rfl (xa_cons (x_var (pv 0) rfl) xa_nil))) rfl) (owS_le (by decide)) (by decide))
  (c_cons (o1 := owS [2]) (c_own (ps_set (i := 2) T.nd rfl (Or.inl rfl) (f_lst (xa_cons x_int xa_nil))) rfl (owS_add (by decide)))
  (c_cons (o1 := owS [2, 3]) (c_own (ps_set (i := 3) T.nd rfl (Or.inl rfl) (f_dicK (x_idx T.ix (w_of (x_var (pv 1) rfl)) (w_of x_int)) x_int)) rfl (owS_add (by decide)))
  (c_cons (o1 := owS [2, 3, 4]) (c_own (ps_set (i := 4) T.nd rfl (Or.inl rfl) (f_lst xa_nil)) rfl (owS_add (by decide)))
  (c_cons (o1 := owS [2, 3, 4]) (s_up (s_while T.po (t_cmp y_lt n_lt b_lt (w_of (x_b1 v_len n_len rfl (Y.free 4) hv_len (x_own (pv 4)))) (w_of (x_b1 v_len n_len rfl (Y.free 4) hv_len (x_own (pv 2)))) rfl) (c_cons (o1 := owS [2, 3, 4, 5]) (c_own (ps_set (i := 5) T.nd rfl (Or.inl rfl) (f_lst xa_nil)) rfl (owS_add (by decide)))
  (c_cons (o1 := owS [2, 3, 4, 5]) (s_up (s_for T.po T.calm (i_seq (x_idx T.ix (w_of (x_attr (att_ok (Y.more 1)) (w_of (x_var (pv 0) rfl)))) (w_of (x_idx T.ix (x_own (pv 2)) (w_of (x_b1 v_len n_len rfl (Y.free 4) hv_len (x_own (pv 4)))))))) (g_nm (pg_name (i := 6) T.nd rfl (Or.inl rfl)) rfl) (c_cons (o1 := owS [2, 3, 4, 5]) (c_if (t_cmp T.nin n_notin b_notin (w_of (x_idx T.ix (w_of (x_var (pv 1) rfl)) (w_of (x_var (pv 6) rfl)))) (x_own (pv 3)) rfl) (c_cons (o1 := owS [2, 3, 4, 5]) (s_up (s_setL (i := 3) (ps_asg (x_b1 v_len n_len rfl (Y.free 4) hv_len (x_own (pv 2))) (pg_sub (pv 3) (x_idx T.ix (w_of (x_var (pv 1) rfl)) (w_of (x_var (pv 6) rfl))) T.st)) rfl) (owS_le (by decide)) (by decide))
  (c_one (s_up (s_app1 (i := 2) (pv 2) (x_var (pv 6) rfl) rfl) (owS_le (by decide)) (by decide)))) (c_cut (o1 := owS [2, 3, 4, 5]) c_nil (owS_le (by decide)) (by decide)))
  (c_one (s_up (s_app1 (i := 5) (pv 5) (x_idx T.ix (x_own (pv 3)) (w_of (x_idx T.ix (w_of (x_var (pv 1) rfl)) (w_of (x_var (pv 6) rfl))))) rfl) (owS_le (by decide)) (by decide))))) (owS_le (by decide)) (by decide))
  (c_cut (o1 := owS [2, 3, 4]) (c_one (s_up (s_app1 (i := 4) (pv 4) (x_t1 v_tuple n_tuple rfl (Y.free 3) hv_tuple (w_of (x_var (pv 5) rfl))) rfl) (owS_le (by decide)) (by decide))) (owS_le (by decide)) (by decide))))) (owS_le (by decide)) (by decide))
  (c_cut (o1 := owS []) (c_one (s_up (s_ret (x_new (cls := "Machine") T (c_Machine Y) (by decide) rfl (xa_cons (x_attr (att_ok (Y.more 0)) (w_of (x_var (pv 0) rfl))) (xa_cons (x_var (pv 4) rfl) (xa_cons (e_of (f_lc (own := [("state", 7)]) T (i_gr (i_seq (x_var (pv 2) rfl))) (blkOk_by (N := N_least_machine) (sc := sc_least_machine) (own := [("state", 7)]) (by decide +kernel)) (fun _ _ _ _ _ T1 => (g_nm (pg_name (i := 7) T1.nd rfl (Or.inl rfl)) rfl)) (fun _ _ _ _ _ T1 => ts_nil) (fun _ _ _ _ _ T1 => (x_idx T1.ix (w_of (x_attr (att_ok (Y.more 2)) (w_of (x_var (pv 0) rfl)))) (w_of (x_var (pv 7) rfl)))) (by decide))) xa_nil))))) (owS_le (by decide)) (by decide))) (owS_le (by decide)) (by decide))))))))
theorem S_numbers_read : FnScope N_numbers_read ["inputs", "reading", "letter"] sc_numbers_read := ⟨rfl, rfl, rfl, by decide +kernel, rfl, by decide +kernel, by decide +kernel⟩
theorem c_numbers_read (Y : Fs P w K mg) : CallOk P w K mg base 1 "numbers_read" d_numbers_read ["inputs", "reading", "letter"] 3 m_numbers_read :=
  def_ok (d := d_numbers_read) (N := N_numbers_read) (ps := ["inputs", "reading", "letter"]) (p := 3) (m := b_numbers_read) (k := 0) (ow := ow_numbers_read) (oN := owS []) (oB := owS []) (Y.def_ 22) (Y.glo 37) S_numbers_read rfl rfl (by decide) (fun _ _ _ _ _ _ us hl => match us, hl with | [_, _, _], _ => rfl) (fun cdv A outer s H E T => (c_cons (o1 := owS [3]) (c_own (ps_set (i := 3) T.nd rfl (Or.inl rfl) (f_lst xa_nil)) rfl (owS_add (by decide)))
  (c_cons (o1 := owS [3]) (s_up (s_for T.po T.calm (i_rng1 rfl (Y.free 0) (x_var (pv 0) rfl)) (g_nm (pg_name (i := 4) T.nd rfl (Or.inr rfl)) rfl) (c_cons (o1 := owS [3]) (s_up (s_set (ps_set (i := 5) T.nd rfl (Or.inl rfl) (x_b1 (v_sum T.calm) n_sum rfl (Y.free 13) hv_sum (w_of (e_of (f_lc (own := [("place", 6), ("one", 7)]) T (i_gr (i_enum rfl (Y.free 7) (x_var (pv 1) rfl))) (blkOk_by (N := N_numbers_read) (sc := sc_numbers_read) (own := [("place", 6), ("one", 7)]) (by decide +kernel)) (fun _ _ _ _ _ T1 => (g_tup T1.calm (gs_cons (g_nm (pg_name (i := 6) T1.nd rfl (Or.inl rfl)) rfl) (gs_cons (g_nm (pg_name (i := 7) T1.nd rfl (Or.inl rfl)) rfl) gs_nil)))) (fun _ _ _ _ _ T1 => ts_nil) (fun _ _ _ _ _ T1 => (x_bin y_shl n_shl (w_of (x_bin y_and n_and (w_of (x_bin y_shr n_shr (w_of (x_var (pv 7) rfl)) (w_of (x_var (pv 4) rfl)))) (w_of x_int))) (w_of (x_var (pv 6) rfl)))) (by decide)))))) rfl) (owS_le (by decide)) (by decide))
  (c_one (s_up (s_app1 (i := 3) (pv 3) (x_bin y_sub n_sub (w_of (x_var (pv 5) rfl)) (w_of (x_bin y_shl n_shl (w_of (x_bin y_and n_and (w_of (x_bin y_shr n_shr (w_of (x_var (pv 2) rfl)) (w_of (x_var (pv 4) rfl)))) (w_of x_int))) (w_of (x_b1 v_len n_len rfl (Y.free 4) hv_len (w_of (x_var (pv 1) rfl))))))) rfl) (owS_le (by decide)) (by decide))))) (owS_le (by decide)) (by decide))
  (c_cut (o1 := owS []) (c_one (s_up (s_ret (x_t1 v_tuple n_tuple rfl (Y.free 3) hv_tuple (w_of (x_var (pv 3) rfl)))) (owS_le (by decide)) (by decide))) (owS_le (by decide)) (by decide)))))
theorem S_ring_bits : FnScope N_ring_bits ["machine", "state", "letter"] sc_ring_bits := ⟨rfl, rfl, rfl, by decide +kernel, rfl, by decide +kernel, by decide +kernel⟩
theorem c_ring_bits (Y : Fs P w K mg) : CallOk P w K mg base 3 "ring_bits" d_ring_bits ["machine", "state", "letter"] 3 m_ring_bits :=
  def_ok (d := d_ring_bits) (N := N_ring_bits) (ps := ["machine", "state", "letter"]) (p := 3) (m := b_ring_bits) (k := 2) (ow := ow_ring_bits) (oN := owS []) (oB := owS []) (Y.def_ 23) (Y.glo 38) S_ring_bits rfl rfl (by decide) (fun _ _ _ _ _ _ us hl => match us, hl with | [_, _, _], _ => rfl) (fun cdv A outer s H E T => (c_cons (o1 := owS []) (s_up (s_for T.po T.calm (i_rng1 rfl (Y.free 0) (x_b1 (v_lenX T (lens_cons (len_ok (c_Machine_len Y) (by decide)) lens_nil)) n_lenX rfl (Y.free 4) hv_len (w_of (x_var (pv 0) rfl)))) (g_nm (pg_name (i := 3) T.nd rfl (Or.inl rfl)) rfl) (c_one (s_up (s_set (ps_set (i := 1) T.nd rfl (Or.inl rfl) (x_idx T.ix (w_of (x_idx T.ix (w_of (x_attr (att_ok (Y.more 1)) (w_of (x_var (pv 0) rfl)))) (w_of (x_var (pv 1) rfl)))) (w_of (x_var (pv 2) rfl)))) rfl) (owS_le (by decide)) (by decide)))) (owS_le (by decide)) (by decide))
  (c_cons (o1 := owS [4]) (c_own (ps_set (i := 4) T.nd rfl (Or.inl rfl) (f_lst xa_nil)) rfl (owS_add (by decide)))
  (c_cons (o1 := owS [4]) (s_up (s_for T.po T.calm (i_rng1 rfl (Y.free 0) (x_b1 (v_lenX T (lens_cons (len_ok (c_Machine_len Y) (by decide)) lens_nil)) n_lenX rfl (Y.free 4) hv_len (w_of (x_var (pv 0) rfl)))) (g_nm (pg_name (i := 3) T.nd rfl (Or.inl rfl)) rfl) (c_cons (o1 := owS [4]) (s_up (s_app1 (i := 4) (pv 4) (x_idx T.ix (w_of (x_idx T.ix (w_of (x_attr (att_ok (Y.more 2)) (w_of (x_var (pv 0) rfl)))) (w_of (x_var (pv 1) rfl)))) (w_of (x_var (pv 2) rfl))) rfl) (owS_le (by decide)) (by decide))
  (c_one (s_up (s_set (ps_set (i := 1) T.nd rfl (Or.inl rfl) (x_idx T.ix (w_of (x_idx T.ix (w_of (x_attr (att_ok (Y.more 1)) (w_of (x_var (pv 0) rfl)))) (w_of (x_var (pv 1) rfl)))) (w_of (x_var (pv 2) rfl)))) rfl) (owS_le (by decide)) (by decide))))) (owS_le (by decide)) (by decide))
  (c_cut (o1 := owS []) (c_one (s_up (s_ret (x_var (pv 4) rfl)) (owS_le (by decide)) (by decide))) (owS_le (by decide)) (by decide))))))
theorem S_breaking_numbers : FnScope N_breaking_numbers ["machine"] sc_breaking_numbers := ⟨rfl, rfl, rfl, by decide +kernel, rfl, by decide +kernel, by decide +kernel⟩
theorem c_breaking_numbers (Y : Fs P w K mg) : CallOk P w K mg base 8 "breaking_numbers" d_breaking_numbers ["machine"] 1 m_breaking_numbers :=
  def_ok (d := d_breaking_numbers) (N := N_breaking_numbers) (ps := ["machine"]) (p := 1) (m := b_breaking_numbers) (k := 7) (ow := ow_breaking_numbers) (Y.def_ 24) (Y.glo 39) S_breaking_numbers rfl rfl (by decide) (fun _ _ _ _ _ _ us hl => match us, hl with | [_], _ => rfl) (fun cdv A outer s H E T => (ss_cons (s_set (ps_set (i := 1) T.nd rfl (Or.inl rfl) (x_own1 T (c_least_machine Y) (by decide) rfl (xa_cons (x_var (pv 0) rfl) xa_nil))) rfl)
  (ss_cons (s_set (ps_set (i := 2) T.nd rfl (Or.inl rfl) (x_own1 T (c_first_readings Y) (by decide) rfl (xa_cons (x_var (pv 1) rfl) xa_nil))) rfl)
  (ss_cons (s_for T.po T.calm (i_rng1 rfl (Y.free 0) (x_b1 (v_lenX T (lens_cons (len_ok (c_Machine_len Y) (by decide)) lens_nil)) n_lenX rfl (Y.free 4) hv_len (w_of (x_var (pv 1) rfl)))) (g_nm (pg_name (i := 3) T.nd rfl (Or.inl rfl)) rfl) (ss_one (s_for T.po T.calm (i_rng1 rfl (Y.free 0) (x_bin y_shl n_shl (w_of x_int) (w_of (x_attr (att_ok (Y.more 0)) (w_of (x_var (pv 1) rfl)))))) (g_nm (pg_name (i := 4) T.nd rfl (Or.inl rfl)) rfl) (ss_cons (s_set (ps_set (i := 5) T.nd rfl (Or.inl rfl) (x_own1 T (c_ring_bits Y) (by decide) rfl (xa_cons (x_var (pv 1) rfl) (xa_cons (x_var (pv 3) rfl) (xa_cons (x_var (pv 4) rfl) xa_nil))))) rfl)
  (ss_one (s_if (t_cmp T.ne n_ne b_ne (w_of (x_b1 (v_minL T.calm) n_minL rfl (Y.free 9) hv_min (w_of (x_var (pv 5) rfl)))) (w_of (x_b1 (v_maxL T.calm) n_maxL rfl (Y.free 10) hv_max (w_of (x_var (pv 5) rfl)))) rfl) (ss_one (s_ret (x_own1 T (c_numbers_read Y) (by decide) rfl (xa_cons (x_attr (att_ok (Y.more 0)) (w_of (x_var (pv 1) rfl))) (xa_cons (x_idx T.ix (w_of (x_var (pv 2) rfl)) (w_of (x_var (pv 3) rfl))) (xa_cons (x_var (pv 4) rfl) xa_nil)))))) ss_nil))))))
  (ss_one (s_ret x_non))))))
theorem S_keeps_integers : FnScope N_keeps_integers ["machine"] sc_keeps_integers := ⟨rfl, rfl, rfl, by decide +kernel, rfl, by decide +kernel, by decide +kernel⟩
theorem c_keeps_integers (Y : Fs P w K mg) : CallOk P w K mg base 9 "keeps_integers" d_keeps_integers ["machine"] 1 m_keeps_integers :=
  def_ok (d := d_keeps_integers) (N := N_keeps_integers) (ps := ["machine"]) (p := 1) (m := b_keeps_integers) (k := 8) (ow := ow_keeps_integers) (Y.def_ 25) (Y.glo 40) S_keeps_integers rfl rfl (by decide) (fun _ _ _ _ _ _ us hl => match us, hl with | [_], _ => rfl) (fun cdv A outer s H E T => (ss_one (s_ret (x_isN (w_of (x_own1 T (c_breaking_numbers Y) (by decide) rfl (xa_cons (x_var (pv 0) rfl) xa_nil)))))))
theorem S__law_ask : FnScope N__law_ask ["pool"] sc__law_ask := ⟨rfl, rfl, rfl, by decide +kernel, rfl, by decide +kernel, by decide +kernel⟩
theorem c_law_ask (Y : Fs P w K mg) : CallOk P w K mg base 10 "_law_ask" d__law_ask ["pool"] 1 m_law_ask :=
  def_ok (d := d__law_ask) (N := N__law_ask) (ps := ["pool"]) (p := 1) (m := b__law_ask) (k := 9) (ow := ow__law_ask) (Y.def_ 26) (Y.glo 41) S__law_ask rfl rfl (by decide) (fun _ _ _ _ _ _ us hl => match us, hl with | [_], _ => rfl) (fun cdv A outer s H E T => (ss_cons (s_set (ps_set (i := 1) T.nd rfl (Or.inl rfl) (x_idx T.ix (w_of (x_tup (xa_cons x_int (xa_cons x_int (xa_cons x_int (xa_cons x_int xa_nil)))))) (w_of (x_own1 T (c_law_pick Y) (by decide) rfl (xa_cons (x_var (pv 0) rfl) (xa_cons x_int xa_nil)))))) rfl)
  (ss_cons (s_gen (ps_asg (x_own1 T (c_law_machine Y) (by decide) rfl (xa_cons (x_var (pv 0) rfl) (xa_cons (x_bin y_shl n_shl (w_of x_int) (w_of (x_var (pv 1) rfl))) xa_nil))) (g_tup T.calm (gs_cons (g_nm (pg_name (i := 2) T.nd rfl (Or.inl rfl)) rfl) (gs_cons (g_nm (pg_name (i := 3) T.nd rfl (Or.inl rfl)) rfl) gs_nil)))))
  (ss_cons (s_set (ps_set (i := 4) T.nd rfl (Or.inl rfl) (x_new (cls := "Machine") T (c_Machine Y) (by decide) rfl (xa_cons (x_var (pv 1) rfl) (xa_cons (e_of (f_list rfl rfl (Y.free 2) (w_of (x_var (pv 2) rfl)))) (xa_cons (e_of (f_list rfl rfl (Y.free 2) (w_of (x_var (pv 3) rfl)))) xa_nil))))) rfl)
  (ss_cons (s_set (ps_set (i := 5) T.nd rfl (Or.inl rfl) (x_own1 T (c_law_breaks Y) (by decide) rfl (xa_cons (x_var (pv 2) rfl) (xa_cons (x_var (pv 3) rfl) xa_nil)))) rfl)
  (ss_cons (s_set (ps_set (i := 6) T.nd rfl (Or.inl rfl) (x_own1 T (c_keeps_integers Y) (by decide) rfl (xa_cons (x_var (pv 4) rfl) xa_nil))) rfl)
  (ss_cons (s_if (PW.pt (t_or (PW.pt (t_and (t_tst (w_of (x_var (pv 5) rfl)) (by intro _; rfl)) (t_and1 (t_cmp y_notB n_notB b_notB (w_of (x_var (pv 6) rfl)) (w_of x_bl) rfl)))) (t_or1 (PW.pt (t_and (t_not (t_tst (w_of (x_var (pv 5) rfl)) (by intro _; rfl))) (t_and1 (t_cmp y_notB n_notB b_notB (w_of (x_var (pv 6) rfl)) (w_of x_bl) rfl))))))) (ss_one (s_ret x_bl)) ss_nil)
  (ss_cons (s_for T.po T.calm (i_rng1 rfl (Y.free 0) x_int) (g_nm (pg_name (i := 7) T.nd rfl (Or.inl rfl)) rfl) (ss_cons (s_set (ps_set (i := 8) T.nd rfl (Or.inl rfl) (x_own1 T (c_breaking_numbers Y) (by decide) rfl (xa_cons (x_var (pv 4) rfl) xa_nil))) rfl)
  (ss_cons (s_if (PW.pt (t_and (t_tst (w_of (x_var (pv 5) rfl)) (by intro _; rfl)) (t_and1 (t_not (t_tst (w_of (x_own1 T (c_law_right Y) (by decide) rfl (xa_cons (x_var (pv 8) rfl) (xa_cons (x_var (pv 1) rfl) (xa_cons (x_var (pv 2) rfl) (xa_cons (x_var (pv 3) rfl) xa_nil)))))) (by intro _; rfl)))))) (ss_one (s_ret x_bl)) ss_nil)
  (ss_cons (s_if (PW.pt (t_and (t_not (t_tst (w_of (x_var (pv 5) rfl)) (by intro _; rfl))) (t_and1 (t_notN (w_of (x_var (pv 8) rfl)))))) (ss_one (s_ret x_bl)) ss_nil)
  (ss_one (s_set (ps_set (i := 4) T.nd rfl (Or.inl rfl) (x_new (cls := "Machine") T (c_Machine Y) (by decide) rfl (xa_cons (x_var (pv 1) rfl) (xa_cons (x_t1 v_tuple n_tuple rfl (Y.free 3) hv_tuple (w_of (x_var (pv 2) rfl))) (xa_cons (x_t1 v_tuple n_tuple rfl (Y.free 3) hv_tuple (w_of (x_var (pv 3) rfl))) xa_nil))))) rfl))))))
  (ss_cons (s_if (PW.pt (t_or (t_cmp T.ne n_ne b_ne (w_of (x_attr (att_ok (Y.more 0)) (w_of (x_var (pv 4) rfl)))) (w_of (x_var (pv 1) rfl)) rfl) (t_or (t_cmp T.ne n_ne b_ne (w_of (x_attr (att_ok (Y.more 1)) (w_of (x_var (pv 4) rfl)))) (w_of (x_t1 v_tuple n_tuple rfl (Y.free 3) hv_tuple (w_of (x_var (pv 2) rfl)))) rfl) (t_or1 (t_cmp T.ne n_ne b_ne (w_of (x_attr (att_ok (Y.more 2)) (w_of (x_var (pv 4) rfl)))) (w_of (x_t1 v_tuple n_tuple rfl (Y.free 3) hv_tuple (w_of (x_var (pv 3) rfl)))) rfl))))) (ss_one (s_ret x_bl)) ss_nil)
  (ss_one (s_ret (x_cmp T.eq n_eq (w_of (x_cmp y_isB n_isB (w_of (x_own1 T (c_keeps_integers Y) (by decide) rfl (xa_cons (x_var (pv 4) rfl) xa_nil))) (w_of x_bl) rfl)) (w_of (x_not (x_var (pv 5) rfl))) rfl))))))))))))
theorem S_law : FnScope N_law ["script"] sc_law := ⟨rfl, rfl, rfl, by decide +kernel, rfl, by decide +kernel, by decide +kernel⟩
theorem law_is (Y : Fs P w K mg) : ∃ fd : FuncData, (∀ (s : Shared) (u : Value), BindsTo s fd ⟨[u], []⟩ [("script", u)]) ∧ ∀ base : Heap, FnOk P w K mg base (L2N.CX P w) 11 (He.ga K "law") fd ["script"] (spM K 1 m_law) :=
  law_ok (qual := "law") (params := defArgs st_law) (body := defBody st_law) (scope := sc_law) (f := He.ga K "law") (N := N_law) (m := b_law) (ow := ow_law) (Y.def_ 27) S_law rfl rfl (fun _ _ _ _ _ _ us hl => match us, hl with | [_], _ => rfl) (fun base cdv A outer s H E T => (ss_cons (s_set (ps_set (i := 1) T.nd rfl (Or.inl rfl) (x_pool (f_lst (xa_cons (e_of (f_lc (own := [("cell", 2)]) T (i_gr (i_seq (x_slc (w_of (x_var (pv 0) rfl)) o_none (o_some x_int)))) (blkOk_by (N := N_law) (sc := sc_law) (own := [("cell", 2)]) (by decide +kernel)) (fun _ _ _ _ _ T1 => (g_nm (pg_name (i := 2) T1.nd rfl (Or.inl rfl)) rfl)) (fun _ _ _ _ _ T1 => ts_nil) (fun _ _ _ _ _ T1 => (x_t1 v_int n_int rfl (Y.free 1) hv_int (w_of (x_var (pv 2) rfl)))) (by decide))) (xa_cons x_int (xa_cons x_int (xa_cons x_int xa_nil))))))) rfl)
  (ss_one (s_thru T fun T2 => (ss_one (s_ret (x_own1 T2 (c_law_ask Y) (by decide) rfl (xa_cons (x_var (pv 1) rfl) xa_nil))))))))
end
theorem ob_eq (s : PySem.W.SharedT) : ob s = hkY.obs s.abs := obsYG_eq (HandSHeadRun.getT_eq s)
end Py
/-! More about mirrors: comprehensions over made lists, enumerate, slices, draws. -/
namespace Py.U
open PySem
def Drawn : List Int → List Int → Prop
  | [], [] => True
  | d :: ds, s :: ss => (0 ≤ d ∧ d < s) ∧ Drawn ds ss
  | _, _ => False
theorem Drawn.snoc : ∀ {ds ss : List Int} {d s : Int}, Drawn ds ss → 0 ≤ d → d < s → Drawn (ds ++ [d]) (ss ++ [s])
  | [], [], _, _, _, h1, h2 => ⟨⟨h1, h2⟩, trivial⟩
  | d :: ds, s :: ss, _, _, h, h1, h2 => ⟨h.1, Drawn.snoc h.2 h1 h2⟩
  | [], _ :: _, _, _, h, _, _ => h.elim
  | _ :: _, [], _, _, h, _, _ => h.elim
theorem Drawn.length : ∀ {ds ss : List Int}, Drawn ds ss → ds.length = ss.length
  | [], [], _ => rfl
  | d :: ds, s :: ss, h => congrArg (· + 1) (Drawn.length h.2)
  | [], _ :: _, h => h.elim
  | _ :: _, [], h => h.elim
theorem le_sz {n : Nat} (h : n ≤ 1000) : n ≤ SZ := Nat.le_trans h (by decide)
mutual
theorem eqv_refl : ∀ (n : Nat) (d : D), pl n d = true → eqv d d = true
  | _, .non, _ => by simp [eqv]
  | _, .bl _, _ => by simp [eqv]
  | _, .int _, _ => by simp [eqv]
  | _, .str _, _ => by simp [eqv]
  | 0, .tup _, h => by simp [pl] at h
  | 0, .lst _, h => by simp [pl] at h
  | n + 1, .tup xs, h => by
    simp only [pl] at h
    unfold eqv
    exact eqv_reflL n xs h
  | n + 1, .lst xs, h => by
    simp only [pl] at h
    unfold eqv
    exact eqv_reflL n xs h
  | n, .ins _ _, h => by cases n <;> simp [pl] at h
  | n, .dic _ _, h => by cases n <;> simp [pl] at h
  | n, .drw _, h => by cases n <;> simp [pl] at h
theorem eqv_reflL : ∀ (n : Nat) (ds : List D), ds.all (pl n) = true → eqv.eqvL ds ds = true
  | _, [], _ => by simp [eqv.eqvL]
  | n, d :: ds, h => by
    simp only [List.all_cons, Bool.and_eq_true] at h
    simp only [eqv.eqvL, eqv_refl n d h.1, eqv_reflL n ds h.2, Bool.and_self]
end
theorem compL_mapI {α : Type} {f : D → Res (Option D)} {k h : α → D} : ∀ {ys : List α}, (∀ y ∈ ys, f (k y) = .ok (some (h y))) → compL f (ys.map k) = .ok (ys.map h)
  | [], _ => rfl
  | y :: ys, q => by
    rw [List.map_cons, List.map_cons]
    unfold compL
    rw [q y List.mem_cons_self, compL_mapI fun z hz => q z (List.mem_cons_of_mem _ hz)] <;> rfl
theorem lc_mapI {α : Type} {it : IM} {vs : List Nat} {g : GM} {elt : EM} {e : Env} {ys : List α} {k h : α → D} (hi : it e = .ok (ys.map k)) (hz : ys.length ≤ SZ) (hx : ∀ y ∈ ys, ∃ e1, g (k y) (wipe e vs) = some e1 ∧ elt e1 = .ok (h y)) : lcE it vs g yes elt e = .ok (.lst (ys.map h)) := by
  unfold lcE
  rw [hi]
  have q : compL (compF vs g yes elt e) (ys.map k) = .ok (ys.map h) := compL_mapI fun x hm => by
    obtain ⟨e1, h1, h2⟩ := hx x hm
    unfold compF
    rw [h1]
    simp [yes, h2]
  simp only [bind_ok, q, noexc_ok, List.length_map]
  exact chk_ok hz
theorem sum_map {α : Type} (f : α → Int) (ys : List α) : bsum (.lst (ys.map fun y => .int (f y))) = .ok (.int (ys.map f).sum) := by
  have q := bsum_ints (ys.map f)
  rw [List.map_map] at q
  exact q
theorem enumL_snoc : ∀ (xs : List D) (k : Nat) (d : D), enumL k (xs ++ [d]) = enumL k xs ++ [.tup [.int ((k + xs.length : Nat) : Int), d]]
  | [], k, d => by simp [enumL]
  | x :: xs, k, d => by
    simp only [List.cons_append, enumL, enumL_snoc xs (k + 1) d, List.length_cons]
    rw [show k + 1 + xs.length = k + (xs.length + 1) by omega]
theorem enum_rng (f : Nat → D) : ∀ w : Nat, enumL 0 ((List.range w).map f) = (List.range w).map fun p => .tup [.int ((p : Nat) : Int), f p]
  | 0 => rfl
  | w + 1 => by
    rw [List.range_succ, List.map_append, List.map_append, List.map_singleton, List.map_singleton, enumL_snoc, enum_rng f w]
    simp
theorem seq_next {a b : SM} {e e' : Env} (h : a e = .ok (.next e')) : seq a b e = b e' := by
  rw [seq_eq, h]
  rfl
end Py.U
/-! Numbers of first meetings; classes of states; a search by levels. No program in sight. -/
namespace Py.U
section
variable {α β : Type} [DecidableEq α] [DecidableEq β]
def addU (s : List α) (k : α) : List α := if k ∈ s then s else s ++ [k]
def uniq (ks : List α) : List α := ks.foldl addU []
theorem mem_addU {s : List α} {k x : α} : x ∈ addU s k ↔ x ∈ s ∨ x = k := by
  unfold addU
  split
  · rename_i h
    constructor
    · exact .inl
    · rintro (q | rfl)
      · exact q
      · exact h
  · simp
theorem nodup_addU {s : List α} {k : α} (h : s.Nodup) : (addU s k).Nodup := by
  unfold addU
  split
  · exact h
  · rename_i hk
    rw [List.nodup_append]
    refine ⟨h, by simp, fun a ha b hb => ?_⟩
    rw [List.mem_singleton.mp hb]
    rintro rfl
    exact hk ha
theorem foldU : ∀ (ks s : List α), s.Nodup → (ks.foldl addU s).Nodup ∧ ∀ x, x ∈ ks.foldl addU s ↔ x ∈ s ∨ x ∈ ks
  | [], s, h => ⟨h, fun x => by simp⟩
  | k :: ks, s, h => by
    obtain ⟨h1, h2⟩ := foldU ks (addU s k) (nodup_addU h)
    refine ⟨h1, fun x => ?_⟩
    rw [List.foldl_cons, h2, mem_addU, List.mem_cons]
    constructor
    · rintro ((a | a) | a)
      · exact .inl a
      · exact .inr (.inl a)
      · exact .inr (.inr a)
    · rintro (a | a | a)
      · exact .inl (.inl a)
      · exact .inl (.inr a)
      · exact .inr a
theorem uniq_nodup (ks : List α) : (uniq ks).Nodup := (foldU ks [] List.nodup_nil).1
theorem mem_uniq {ks : List α} {x : α} : x ∈ uniq ks ↔ x ∈ ks := by
  have := (foldU ks [] List.nodup_nil).2 x
  simpa [uniq] using this
theorem uniq_snoc (ks : List α) (k : α) : uniq (ks ++ [k]) = addU (uniq ks) k := by
  unfold uniq
  rw [List.foldl_append]
  rfl
theorem idx_app {s t : List α} {k : α} (h : k ∈ s) : (s ++ t).idxOf k = s.idxOf k := by
  rw [List.idxOf_append, if_pos h]
theorem idx_addU {s : List α} {k x : α} (h : x ∈ s) : (addU s k).idxOf x = s.idxOf x := by
  unfold addU
  split
  · rfl
  · exact idx_app h
theorem idx_new {s : List α} {k : α} : (addU s k).idxOf k = s.idxOf k := by
  unfold addU
  split
  · rfl
  · rename_i h
    rw [List.idxOf_append, if_neg h, List.idxOf_eq_length h]
    simp
/-- the number of each key's first meeting -/
def numb (ks : List α) : List Nat := ks.map fun k => (uniq ks).idxOf k
theorem numb_len (ks : List α) : (numb ks).length = ks.length := by simp [numb]
theorem numb_snoc (ks : List α) (k : α) : numb (ks ++ [k]) = numb ks ++ [(uniq ks).idxOf k] := by
  unfold numb
  rw [uniq_snoc, List.map_append, List.map_singleton, idx_new]
  congr 1
  exact List.map_congr_left fun x hx => idx_addU (mem_uniq.mpr hx)
theorem numb_lt {ks : List α} {n : Nat} (h : n ∈ numb ks) : n < (uniq ks).length := by
  obtain ⟨k, hk, rfl⟩ := List.mem_map.mp h
  exact List.idxOf_lt_length_of_mem (mem_uniq.mpr hk)
theorem uniq_len (ks : List α) : (uniq ks).length ≤ ks.length := by
  have key : ∀ (ks s : List α), (ks.foldl addU s).length ≤ s.length + ks.length := by
    intro ks
    induction ks with
    | nil => simp
    | cons k ks ih =>
      intro s
      have h1 : (addU s k).length ≤ s.length + 1 := by
        unfold addU
        split <;> simp
      have := ih (addU s k)
      simp only [List.foldl_cons, List.length_cons]
      omega
  have := key ks []
  simpa [uniq] using this
/-- the greatest number -/
def mxN (c : List Nat) : Nat := c.foldl max 0
theorem foldmx : ∀ (c : List Nat) (a : Nat), a ≤ c.foldl max a ∧ (∀ x ∈ c, x ≤ c.foldl max a) ∧ (c.foldl max a = a ∨ c.foldl max a ∈ c)
  | [], a => ⟨Nat.le_refl _, by simp, .inl rfl⟩
  | x :: c, a => by
    obtain ⟨h1, h2, h3⟩ := foldmx c (max a x)
    simp only [List.foldl_cons]
    refine ⟨by omega, fun y hy => ?_, ?_⟩
    · rcases List.mem_cons.mp hy with rfl | hy
      · omega
      · exact h2 y hy
    · rcases h3 with h3 | h3
      · rw [h3]
        by_cases q : a ≤ x
        · right
          rw [Nat.max_eq_right q]
          exact List.mem_cons_self
        · left
          omega
      · exact .inr (List.mem_cons_of_mem _ h3)
theorem mx_ge {c : List Nat} {x : Nat} (h : x ∈ c) : x ≤ mxN c := (foldmx c 0).2.1 x h
theorem numb_mx {ks : List α} (h : ks ≠ []) : mxN (numb ks) + 1 = (uniq ks).length := by
  have hu : uniq ks ≠ [] := fun e => by
    cases ks with
    | nil => exact h rfl
    | cons k r =>
      have : k ∈ uniq (k :: r) := mem_uniq.mpr List.mem_cons_self
      rw [e] at this
      cases this
  have hpos : 0 < (uniq ks).length := List.length_pos_iff.mpr hu
  have h1 : mxN (numb ks) < (uniq ks).length := by
    rcases (foldmx (numb ks) 0).2.2 with e | e
    · show List.foldl max 0 (numb ks) < _
      omega
    · exact numb_lt e
  have h2 : (uniq ks).length - 1 ∈ numb ks := by
    have hl : (uniq ks).length - 1 < (uniq ks).length := by omega
    refine List.mem_map.mpr ⟨(uniq ks)[(uniq ks).length - 1], mem_uniq.mp (List.getElem_mem hl), ?_⟩
    exact (uniq_nodup ks).idxOf_getElem _ hl
  have h3 := mx_ge h2
  omega
/-- finer keys have more numbers -/
theorem uniq_le_of {ks : List α} {js : List β} (f : β → α) (h : js.map f = ks) : (uniq ks).length ≤ (uniq js).length := by
  have hs : uniq ks ⊆ (uniq js).map f := fun x hx => by
    have h1 : x ∈ js.map f := by rw [h]; exact mem_uniq.mp hx
    obtain ⟨j, hj, rfl⟩ := List.mem_map.mp h1
    exact List.mem_map.mpr ⟨j, mem_uniq.mpr hj, rfl⟩
  have := (uniq_nodup ks).length_le_of_subset hs
  simpa using this
end
/-! ### classes -/
/-- what a state's class hangs on -/
def keyS (nx : List (List Nat)) (c : List Nat) (s : Nat) : Nat × List Nat := (c.getD s 0, (nx.getD s []).map fun t => c.getD t 0)
def stepC (nx : List (List Nat)) (c : List Nat) : List Nat := numb ((List.range nx.length).map (keyS nx c))
theorem stepC_len (nx : List (List Nat)) (c : List Nat) : (stepC nx c).length = nx.length := by
  unfold stepC
  rw [numb_len]
  simp
theorem rank_numb {α : Type} [DecidableEq α] (ks : List α) : (uniq (numb ks)).length = (uniq ks).length ∧ (ks ≠ [] → mxN (numb ks) + 1 = (uniq (numb ks)).length) := by
  have e : (uniq (numb ks)).length = (uniq ks).length := by
    apply Nat.le_antisymm
    · exact uniq_le_of (js := ks) (fun k => (uniq ks).idxOf k) rfl
    · have h : ((numb ks).map fun n => (uniq ks)[n]?) = ks.map some := by
        unfold numb
        rw [List.map_map]
        refine List.map_congr_left fun k hk => ?_
        simp only [Function.comp]
        have hl := List.idxOf_lt_length_of_mem (mem_uniq.mpr hk)
        rw [List.getElem?_eq_getElem hl, List.getElem_idxOf hl]
      have h1 := uniq_le_of (js := numb ks) (fun n => (uniq ks)[n]?) h
      have h2 : (uniq ks).length ≤ (uniq (ks.map some)).length := by
        have := uniq_le_of (ks := ks.map fun k => some k) (js := ks) some rfl
        have hs : (uniq ks).map some ⊆ uniq (ks.map some) := fun x hx => by
          obtain ⟨y, hy, rfl⟩ := List.mem_map.mp hx
          exact mem_uniq.mpr (List.mem_map.mpr ⟨y, mem_uniq.mp hy, rfl⟩)
        have hn : ((uniq ks).map some).Nodup := by
          exact (uniq_nodup ks).map some fun a b hab e => hab (Option.some.inj e)
        have := hn.length_le_of_subset hs
        simpa using this
      omega
  exact ⟨e, fun h => by rw [e]; exact numb_mx h⟩
/-- numbers of first meetings of something -/
def Met (n : Nat) (c : List Nat) : Prop := c.length = n ∧ (0 < n → mxN c + 1 = (uniq c).length)
theorem met_numb {α : Type} [DecidableEq α] (ks : List α) : Met ks.length (numb ks) := ⟨numb_len ks, fun h => (rank_numb ks).2 (List.length_pos_iff.mp h)⟩
theorem met_step {nx : List (List Nat)} {c : List Nat} : Met nx.length (stepC nx c) := by
  have := met_numb ((List.range nx.length).map (keyS nx c))
  rw [List.length_map, List.length_range] at this
  exact this
theorem range_getD {c : List Nat} {n : Nat} (h : c.length = n) : (List.range n).map (fun s => c.getD s 0) = c := by
  apply List.ext_getElem
  · simp [h]
  · intro i h1 h2
    simp [h2]
theorem step_mx {nx : List (List Nat)} {c : List Nat} (h : Met nx.length c) (hn : 0 < nx.length) : mxN c ≤ mxN (stepC nx c) ∧ mxN (stepC nx c) < nx.length := by
  have h1 := h.2 hn
  have h2 : mxN (stepC nx c) + 1 = _ := numb_mx (ks := (List.range nx.length).map (keyS nx c)) (by
    intro e
    have := congrArg List.length e
    simp at this
    rw [this] at hn
    simp at hn)
  have h3 : (uniq c).length ≤ (uniq ((List.range nx.length).map (keyS nx c))).length := uniq_le_of Prod.fst (by
    rw [List.map_map]
    exact range_getD h.1)
  have h4 := uniq_len ((List.range nx.length).map (keyS nx c))
  simp at h4
  omega
/-- the classes, found in at most so many turns -/
def clsL (nx : List (List Nat)) (c : List Nat) : Nat → List Nat
  | 0 => c
  | k + 1 => if mxN (stepC nx c) = mxN c then c else clsL nx (stepC nx c) k
theorem cls_met {nx : List (List Nat)} : ∀ (k : Nat) (c : List Nat), Met nx.length c → Met nx.length (clsL nx c k)
  | 0, c, h => h
  | k + 1, c, h => by
    rw [clsL]
    split
    · exact h
    · exact cls_met k _ met_step
/-- the classes are kept by a further turn -/
theorem cls_end {nx : List (List Nat)} (hn : 0 < nx.length) : ∀ (k : Nat) (c : List Nat), Met nx.length c → nx.length ≤ mxN c + k + 1 → mxN (stepC nx (clsL nx c k)) = mxN (clsL nx c k)
  | 0, c, h, hk => by
    obtain ⟨h1, h2⟩ := step_mx h hn
    rw [clsL]
    omega
  | k + 1, c, h, hk => by
    rw [clsL]
    obtain ⟨h1, h2⟩ := step_mx h hn
    split
    · assumption
    · exact cls_end hn k (stepC nx c) met_step (by omega)
/-! ### a search by levels -/
section
variable (C : Nat → Nat) (nx : List (List Nat))
def stepT (f : List Nat) (t : Nat) : List Nat := if C t ∈ f.map C then f else f ++ [t]
def stepS (f : List Nat) (s : Nat) : List Nat := (nx.getD s []).foldl (stepT C) f
def bfsL : Nat → List Nat → Nat → List Nat
  | 0, f, _ => f
  | k + 1, f, a => if a < f.length then bfsL k (stepS C nx f (f.getD a 0)) (a + 1) else f
variable {C nx}
theorem stepT_pre (f : List Nat) (t : Nat) : ∃ r, stepT C f t = f ++ r := by
  unfold stepT
  split
  · exact ⟨[], by simp⟩
  · exact ⟨[t], rfl⟩
theorem foldT_pre : ∀ (ts f : List Nat), ∃ r, ts.foldl (stepT C) f = f ++ r
  | [], f => ⟨[], by simp⟩
  | t :: ts, f => by
    obtain ⟨r, hr⟩ := stepT_pre (C := C) f t
    obtain ⟨r2, hr2⟩ := foldT_pre ts (f ++ r)
    refine ⟨r ++ r2, ?_⟩
    rw [List.foldl_cons, hr, hr2, List.append_assoc]
theorem stepS_pre (f : List Nat) (s : Nat) : ∃ r, stepS C nx f s = f ++ r := foldT_pre _ f
theorem bfs_pre : ∀ (k : Nat) (f : List Nat) (a : Nat), ∃ r, bfsL C nx k f a = f ++ r
  | 0, f, a => ⟨[], by simp [bfsL]⟩
  | k + 1, f, a => by
    rw [bfsL]
    split
    · obtain ⟨r, hr⟩ := stepS_pre (C := C) (nx := nx) f (f.getD a 0)
      obtain ⟨r2, hr2⟩ := bfs_pre k (stepS C nx f (f.getD a 0)) (a + 1)
      exact ⟨r ++ r2, by rw [hr2, hr, List.append_assoc]⟩
    · exact ⟨[], by simp⟩
/-- found states: of unlike classes, all below n -/
structure Fnd (C : Nat → Nat) (n : Nat) (f : List Nat) : Prop where
  nd : (f.map C).Nodup
  lt : ∀ s ∈ f, s < n
theorem Fnd.snoc {n : Nat} {f : List Nat} (h : Fnd C n f) {t : Nat} (ht : t < n) : Fnd C n (stepT C f t) := by
  unfold stepT
  split
  · exact h
  · rename_i hn
    refine ⟨?_, fun s hs => ?_⟩
    · rw [List.map_append, List.nodup_append]
      refine ⟨h.nd, by simp, fun a ha b hb => ?_⟩
      rw [List.map_singleton] at hb
      rw [List.mem_singleton.mp hb]
      rintro rfl
      exact hn ha
    · rcases List.mem_append.mp hs with q | q
      · exact h.lt s q
      · rw [List.mem_singleton.mp q]
        exact ht
theorem Fnd.fold {n : Nat} : ∀ {ts f : List Nat}, Fnd C n f → (∀ t ∈ ts, t < n) → Fnd C n (ts.foldl (stepT C) f) ∧ ∀ t ∈ ts, C t ∈ (ts.foldl (stepT C) f).map C
  | [], f, h, _ => ⟨h, by simp⟩
  | t :: ts, f, h, ht => by
    obtain ⟨h1, h2⟩ := Fnd.fold (ts := ts) (h.snoc (ht t List.mem_cons_self)) fun x hx => ht x (List.mem_cons_of_mem _ hx)
    refine ⟨h1, fun x hx => ?_⟩
    rcases List.mem_cons.mp hx with rfl | hx
    · obtain ⟨r, hr⟩ := foldT_pre (C := C) ts (stepT C f x)
      rw [List.foldl_cons, hr, List.map_append]
      refine List.mem_append_left _ ?_
      unfold stepT
      split
      · assumption
      · simp
    · exact h2 x hx
theorem Fnd.step {n : Nat} {f : List Nat} (h : Fnd C n f) {s : Nat} (hs : ∀ t ∈ nx.getD s [], t < n) : Fnd C n (stepS C nx f s) ∧ ∀ t ∈ nx.getD s [], C t ∈ (stepS C nx f s).map C := Fnd.fold h hs
theorem Fnd.len {n m : Nat} {f : List Nat} (h : Fnd C n f) (hC : ∀ s, s < n → C s < m) : f.length ≤ m := by
  have hs : f.map C ⊆ List.range m := fun x hx => by
    obtain ⟨s, hs, rfl⟩ := List.mem_map.mp hx
    exact List.mem_range.mpr (hC s (h.lt s hs))
  have := h.nd.length_le_of_subset hs
  simpa using this
/-- all goals of the states before a have their classes found -/
def Cld (C : Nat → Nat) (nx : List (List Nat)) (f : List Nat) (a : Nat) : Prop := ∀ i, i < a → ∀ t ∈ nx.getD (f.getD i 0) [], C t ∈ f.map C
theorem getD_pre {f r : List Nat} {i : Nat} (h : i < f.length) : (f ++ r).getD i 0 = f.getD i 0 := by
  rw [List.getD_eq_getElem?_getD, List.getD_eq_getElem?_getD, List.getElem?_append_left h]
theorem bfs_ok {n : Nat} (hN : ∀ s, s < n → ∀ t ∈ nx.getD s [], t < n) : ∀ (k : Nat) (f : List Nat) (a : Nat), Fnd C n f → Cld C nx f a → a ≤ f.length → Fnd C n (bfsL C nx k f a) ∧ ((bfsL C nx k f a).length ≤ a + k → Cld C nx (bfsL C nx k f a) (bfsL C nx k f a).length)
  | 0, f, a, h, hc, ha => ⟨h, fun hl => by
    have e : f.length = a := by simp only [bfsL] at hl; omega
    simp only [bfsL]
    rw [e]
    exact hc⟩
  | k + 1, f, a, h, hc, ha => by
    rw [bfsL]
    split
    · rename_i hlt
      have hs : f.getD a 0 < n := h.lt _ (by
        rw [List.getD_eq_getElem?_getD, List.getElem?_eq_getElem hlt]
        exact List.getElem_mem hlt)
      obtain ⟨h1, h2⟩ := h.step (nx := nx) (hN _ hs)
      obtain ⟨r, hr⟩ := stepS_pre (C := C) (nx := nx) f (f.getD a 0)
      have hc' : Cld C nx (stepS C nx f (f.getD a 0)) (a + 1) := fun i hi t ht => by
        by_cases hia : i = a
        · subst hia
          have e : (stepS C nx f (f.getD i 0)).getD i 0 = f.getD i 0 := by rw [hr, getD_pre hlt]
          rw [e] at ht
          exact h2 t ht
        · have hi' : i < a := by omega
          have e : (stepS C nx f (f.getD a 0)).getD i 0 = f.getD i 0 := by rw [hr, getD_pre (by omega)]
          rw [e] at ht
          have := hc i hi' t ht
          rw [hr, List.map_append]
          exact List.mem_append_left _ this
      obtain ⟨g1, g2⟩ := bfs_ok hN k _ (a + 1) h1 hc' (by rw [hr, List.length_append]; omega)
      exact ⟨g1, fun hl => g2 (by omega)⟩
    · rename_i hlt
      have e : f.length = a := by omega
      exact ⟨h, fun _ => by rw [e]; exact hc⟩
theorem bfs_fuel {m : Nat} {n : Nat} (hN : ∀ s, s < n → ∀ t ∈ nx.getD s [], t < n) (hC : ∀ s, s < n → C s < m) : ∀ (k : Nat) (f : List Nat) (a : Nat), Fnd C n f → m ≤ a + k → bfsL C nx k f a = bfsL C nx (k + 1) f a
  | 0, f, a, h, hk => by
    have := h.len hC
    rw [bfsL, bfsL, if_neg (by omega)]
  | k + 1, f, a, h, hk => by
    rw [bfsL, bfsL]
    split
    · rename_i hlt
      have hs : f.getD a 0 < n := h.lt _ (by
        rw [List.getD_eq_getElem?_getD, List.getElem?_eq_getElem hlt]
        exact List.getElem_mem hlt)
      exact bfs_fuel hN hC k _ (a + 1) (h.step (nx := nx) (hN _ hs)).1 (by omega)
    · rfl
end
end Py.U
/-! Dicts from keys to numbers of first meetings, as data. -/
namespace Py.U
def nD (n : Nat) : D := .int (n : Int)
/-! ### equations -/
theorem onotin_dic {t : Bool} {x : D} {kvs : List (D × D)} (h : keyOk t x = true) : onotin x (.dic t kvs) = .ok (.bl (!(find x kvs).isSome)) := by
  show (if keyOk t x = true then Res.ok (D.bl (!(find x kvs).isSome)) else Res.stuck) = _
  rw [if_pos h]
theorem oidx_dic {t : Bool} {x d : D} {kvs : List (D × D)} (h : keyOk t x = true) (hf : find x kvs = some d) : oidx (.dic t kvs) x = .ok d := by
  have e : oidx (.dic t kvs) x = if keyOk t x then opt (find x kvs) else .stuck := by
    cases x <;> rfl
  rw [e, if_pos h, hf]
  rfl
theorem setL_dic {i : Nat} {j m : EM} {e : Env} {t : Bool} {kvs : List (D × D)} {k d : D} (h1 : var i e = .ok (.dic t kvs)) (h2 : m e = .ok d) (h3 : j e = .ok k) (h4 : keyOk t k = true) (h5 : kvs.length < SZ) : setL i j m e = .ok (.next (e.set i (some (.dic t (putD k d kvs))))) := by
  unfold setL
  rw [h1, bind_ok]
  dsimp only
  rw [h2, bind_ok, h3, bind_ok, h4, decide_eq_true h5]
  rfl
theorem blen_dic (t : Bool) (kvs : List (D × D)) : blen (.dic t kvs) = .ok (nD kvs.length) := rfl
@[simp] theorem dic0_eq (t : Bool) (e : Env) : dic0 t e = .ok (.dic t []) := rfl
theorem dic1_eq {t : Bool} {a b : EM} {e : Env} {k v : D} (h1 : a e = .ok k) (h2 : b e = .ok v) (h3 : keyOk t k = true) : dic1 t a b e = .ok (.dic t [(k, v)]) := by
  unfold dic1
  rw [h1, bind_ok, h2, bind_ok, if_pos h3]
/-! ### keys -/
structure KeyE {α : Type} [DecidableEq α] (t : Bool) (kd : α → D) : Prop where
  eq : ∀ a b, eqv (kd a) (kd b) = decide (a = b)
  ok : ∀ a, keyOk t (kd a) = true
section
variable {α : Type} [DecidableEq α] {t : Bool} {kd : α → D}
def tabF (kd : α → D) (k0 : Nat) : List α → List (D × D)
  | [] => []
  | a :: r => (kd a, nD k0) :: tabF kd (k0 + 1) r
theorem tabF_len (kd : α → D) : ∀ (s : List α) (k0 : Nat), (tabF kd k0 s).length = s.length
  | [], _ => rfl
  | a :: r, k0 => by simp [tabF, tabF_len kd r]
theorem find_tabF (h : KeyE t kd) (k : α) : ∀ (s : List α) (k0 : Nat), find (kd k) (tabF kd k0 s) = if k ∈ s then some (nD (k0 + s.idxOf k)) else none
  | [], k0 => by simp [tabF, find]
  | a :: r, k0 => by
    simp only [tabF, find, h.eq]
    by_cases e : a = k
    · subst e
      simp
    · have e2 : ¬ k = a := fun z => e z.symm
      rw [decide_eq_false e, if_neg (by decide), find_tabF h k r (k0 + 1)]
      have e3 : (a == k) = false := by simpa using e
      simp only [List.mem_cons, e2, false_or, List.idxOf_cons, e3, cond_false]
      by_cases q : k ∈ r
      · rw [if_pos q, if_pos q]
        congr 2
        omega
      · rw [if_neg q, if_neg q]
theorem put_tabF (h : KeyE t kd) (k : α) : ∀ (s : List α) (k0 : Nat), k ∉ s → putD (kd k) (nD (k0 + s.length)) (tabF kd k0 s) = tabF kd k0 (s ++ [k])
  | [], k0, _ => by simp [tabF, putD]
  | a :: r, k0, hk => by
    simp only [List.mem_cons, not_or] at hk
    simp only [List.cons_append, tabF, putD, h.eq]
    rw [decide_eq_false fun z => hk.1 z.symm, if_neg (by decide)]
    have := put_tabF h k r (k0 + 1) hk.2
    rw [show k0 + 1 + r.length = k0 + (a :: r).length by simp; omega] at this
    rw [this]
end
/-! ### numbers, lines -/
theorem nD_eq (a b : Nat) : eqv (nD a) (nD b) = decide (a = b) := by
  show eqv (.int (a : Int)) (.int (b : Int)) = _
  simp only [eqv]
  by_cases q : a = b
  · subst q
    simp
  · rw [decide_eq_false q]
    simp
    omega
theorem lineE_eq : ∀ (a b : List Nat), eqv.eqvL (a.map nD) (b.map nD) = decide (a = b)
  | [], [] => by simp [eqv.eqvL]
  | [], b :: bs => by simp [eqv.eqvL]
  | a :: as, [] => by simp [eqv.eqvL]
  | a :: as, b :: bs => by
    simp only [List.map_cons, eqv.eqvL, nD_eq, lineE_eq as bs]
    by_cases q : a = b <;> by_cases r : as = bs <;> simp [q, r]
def rD (r : List Nat) : D := .tup (r.map nD)
theorem rD_eq (a b : List Nat) : eqv (rD a) (rD b) = decide (a = b) := by
  unfold rD
  simp only [eqv]
  exact lineE_eq a b
theorem hk_nD (n m : Nat) : hk n (nD m) = true := by
  unfold nD
  cases n <;> rfl
theorem hk_rD (n : Nat) (r : List Nat) : hk (n + 1) (rD r) = true := by
  unfold rD
  simp only [hk, List.all_map, List.all_eq_true]
  exact fun x _ => hk_nD n x
theorem key_rD : KeyE true rD := ⟨rD_eq, fun a => hk_rD 7 a⟩
theorem key_nD : KeyE false nD := ⟨nD_eq, fun a => rfl⟩
def kpD (p : Nat × List Nat) : D := .tup [nD p.1, rD p.2]
theorem kpD_eq (a b : Nat × List Nat) : eqv (kpD a) (kpD b) = decide (a = b) := by
  unfold kpD
  simp only [eqv, eqv.eqvL, nD_eq, rD_eq]
  obtain ⟨a1, a2⟩ := a
  obtain ⟨b1, b2⟩ := b
  by_cases q : a1 = b1 <;> by_cases r : a2 = b2 <;> simp [q, r]
theorem key_kp : KeyE true kpD := ⟨kpD_eq, fun a => by
  show hk 8 (.tup [nD a.1, rD a.2]) = true
  simp only [hk, List.all_cons, List.all_nil, hk_nD, hk_rD 6, Bool.and_self]⟩
/-! ### each key by the number of its first meeting -/
def nmB : SM := (seq (Py.ite (tst (bin onotin (var 3) (var 1))) (setL 1 (var 3) (un blen (var 1))) skip)
  (app 2 (bin oidx (var 1) (var 3))))
def numB : SM := (seq (asg (gnm 1) (dic0 true))
  (seq (asg (gnm 2) (lstE argN))
  (seq (for_ (iseq (var 0)) (gnm 3) nmB)
  (ret (var 2)))))
section
variable {α : Type} [DecidableEq α] {kd : α → D}
theorem nm_step (h : KeyE true kd) {s : List α} {out : List Nat} {k : α} (hs : s.length < SZ) (ho : out.length < SZ) (K : D) (o : Option D) :
    forB (gnm 3) nmB (kd k) [some K, some (.dic true (tabF kd 0 s)), some (.lst (out.map nD)), o] = .ok (.next [some K, some (.dic true (tabF kd 0 (addU s k))), some (.lst ((out ++ [s.idxOf k]).map nD)), some (kd k)]) := by
  have hk := h.ok k
  have f1 := find_tabF h k s 0
  have hl : (out.map nD).length < SZ := by rw [List.length_map]; exact ho
  rw [forB_eq, gnm_eq, lift_some, bind_ok]
  unfold nmB
  show seq _ _ [some K, some (.dic true (tabF kd 0 s)), some (.lst (out.map nD)), some (kd k)] = _
  by_cases q : k ∈ s
  · rw [if_pos q] at f1
    have n1 : onotin (kd k) (.dic true (tabF kd 0 s)) = .ok (.bl false) := by rw [onotin_dic hk, f1]; rfl
    have g1 := oidx_dic (t := true) hk f1
    have e : addU s k = s := if_pos q
    rw [e]
    rw [Nat.zero_add] at g1
    rw [List.map_append, List.map_singleton]
    generalize tabF kd 0 s = T at *
    generalize kd k = X at *
    generalize out.map nD = L at *
    generalize nD (s.idxOf k) = N at *
    simp [var, n1, g1, hl]
  · rw [if_neg q] at f1
    have n1 : onotin (kd k) (.dic true (tabF kd 0 s)) = .ok (.bl true) := by rw [onotin_dic hk, f1]; rfl
    have p1 := put_tabF h k s 0 q
    rw [Nat.zero_add] at p1
    have e : addU s k = s ++ [k] := if_neg q
    have f2 := find_tabF h k (s ++ [k]) 0
    rw [if_pos (by simp), Nat.zero_add] at f2
    have e3 : (s ++ [k]).idxOf k = s.idxOf k := by
      have := idx_new (s := s) (k := k)
      rw [e] at this
      exact this
    rw [e3] at f2
    have g1 := oidx_dic (t := true) hk f2
    have b1 : blen (.dic true (tabF kd 0 s)) = .ok (nD s.length) := by rw [blen_dic, tabF_len]
    have hz : (tabF kd 0 s).length < SZ := by rw [tabF_len]; exact hs
    have s1 : setL 1 (var 3) (un blen (var 1)) [some K, some (.dic true (tabF kd 0 s)), some (.lst (out.map nD)), some (kd k)] = .ok (.next [some K, some (.dic true (tabF kd 0 (s ++ [k]))), some (.lst (out.map nD)), some (kd k)]) := by
      rw [setL_dic (t := true) (kvs := tabF kd 0 s) (d := nD s.length) (k := kd k) rfl (by simp [var, b1]) rfl hk hz, p1]
      rfl
    rw [e, List.map_append, List.map_singleton]
    generalize tabF kd 0 (s ++ [k]) = T2 at *
    generalize tabF kd 0 s = T at *
    generalize kd k = X at *
    generalize out.map nD = L at *
    generalize nD (s.idxOf k) = N at *
    simp [var, n1, s1, g1, hl]
theorem num_loop (h : KeyE true kd) (K : D) : ∀ (ks done : List α) (o : Option D), (done ++ ks).length < SZ →
    ∃ o', forL (forB (gnm 3) nmB) (ks.map kd) [some K, some (.dic true (tabF kd 0 (uniq done))), some (.lst ((numb done).map nD)), o] = .ok (.next [some K, some (.dic true (tabF kd 0 (uniq (done ++ ks)))), some (.lst ((numb (done ++ ks)).map nD)), o'])
  | [], done, o, _ => ⟨o, by rw [List.append_nil]; rfl⟩
  | k :: ks, done, o, hz => by
    have hl : done.length < SZ := by rw [List.length_append] at hz; omega
    have q := nm_step h (s := uniq done) (out := numb done) (k := k) (Nat.lt_of_le_of_lt (uniq_len done) hl) (by rw [numb_len]; exact hl) K o
    rw [← uniq_snoc, ← numb_snoc] at q
    obtain ⟨o', q2⟩ := num_loop h K ks (done ++ [k]) (some (kd k)) (by rw [List.append_assoc]; exact hz)
    refine ⟨o', ?_⟩
    rw [List.map_cons, forL, q]
    rw [List.append_assoc] at q2
    exact q2
theorem num_run (h : KeyE true kd) {ks : List α} (hz : ks.length < SZ) : numB [some (.lst (ks.map kd)), none, none, none] = .ok (.ret (.lst ((numb ks).map nD))) := by
  obtain ⟨o', q⟩ := num_loop h (.lst (ks.map kd)) ks [] none (by simpa using hz)
  rw [List.nil_append] at q
  have q' : forL (forB (gnm 3) nmB) (ks.map kd) [some (.lst (ks.map kd)), some (.dic true []), some (.lst []), none] = _ := q
  unfold numB
  simp [var, q']
end
end Py.U
/-! Whatever is drawn: how mirrors that draw are computed. -/
namespace Py.U
open PySem
@[simp] theorem always_ok {α : Type} {P : α → Prop} {a : α} : Always P (.ok a) = P a := rfl
theorem _root_.Py.Always.mono {α : Type} {P Q : α → Prop} {r : Res α} (h : Always P r) (k : ∀ a, P a → Q a) : Always Q r := by
  induction r with
  | ok a => exact k a h
  | exc c fs => exact h
  | stuck => exact h
  | pick n f ih => exact fun i hi => ih i (h i hi)
theorem _root_.Py.Always.bind {α β : Type} {Q : α → Prop} {P : β → Prop} {r : Res α} {f : α → Res β} (h : Always Q r) (k : ∀ a, Q a → Always P (f a)) : Always P (r >>= f) := by
  induction r with
  | ok a => exact k a h
  | exc c fs => exact h.elim
  | stuck => exact h.elim
  | pick n g ih =>
    rw [bind_pick]
    exact fun i hi => ih i (h i hi)
theorem _root_.Py.Always.noexc {α : Type} {P : α → Prop} {r : Res α} (h : Always P r) : Always P (Py.noexc r) := by
  induction r with
  | ok a => exact h
  | exc c fs => exact h.elim
  | stuck => exact h.elim
  | pick n g ih => exact fun i hi => ih i (h i hi)
theorem _root_.Py.Always.done {P : D → Prop} {r : Res Fl} (h : Always (fun f => match f with | .next _ => P .non | .ret d => P d | _ => False) r) : Always P (done r) := by
  unfold Py.done
  refine h.bind fun f hf => ?_
  cases f with
  | next e => exact hf
  | ret d => exact hf
  | brk e => exact hf
  | cnt e => exact hf
/-- a draw -/
theorem pick_a {P : D → Prop} {k : Bool} {n : Nat} (h0 : 0 < n) (h1 : n < 1000000) (h : ∀ i : Nat, i < n → P (nD i)) : Always P (pickF k [.drw (.inl k), nD n]) := by
  show Always P (if k = k ∧ 0 < ((n : Nat) : Int) ∧ ((n : Nat) : Int) < 1073741824 then .pick (((n : Nat) : Int) - 1).toNat (fun i => .ok (.int i)) else .stuck)
  rw [if_pos ⟨rfl, by omega, by omega⟩]
  intro i hi
  exact h i (by omega)
theorem pick_i {P : D → Prop} {k : Bool} {n : Int} (h0 : 0 < n) (h1 : n < 1000000) (h : ∀ i : Nat, (i : Int) < n → P (nD i)) : Always P (pickF k [.drw (.inl k), .int n]) := by
  have := pick_a (P := P) (k := k) (n := n.toNat) (by omega) (by omega) fun i hi => h i (by omega)
  unfold nD at this
  rwa [show ((n.toNat : Nat) : Int) = n by omega] at this
theorem pick_b {β : Type} {P : β → Prop} {k : Bool} {n : Nat} {f : D → Res β} (h0 : 0 < n) (h1 : n < 1000000) (h : ∀ i : Nat, i < n → Always P (f (nD i))) : Always P (pickF k [.drw (.inl k), nD n] >>= f) := (pick_a (P := fun d => Always P (f d)) h0 h1 h).bind fun a q => q
theorem pick_bi {β : Type} {P : β → Prop} {k : Bool} {n : Int} {f : D → Res β} (h0 : 0 < n) (h1 : n < 1000000) (h : ∀ i : Nat, (i : Int) < n → Always P (f (nD i))) : Always P (pickF k [.drw (.inl k), .int n] >>= f) := (pick_i (P := fun d => Always P (f d)) h0 h1 h).bind fun a q => q
/-- a draw as it is called -/
theorem pickc {Q : D → Prop} {k : Bool} {e : Env} {i : Nat} {m : EM} {d : D} (n : Nat) (h : e[i]? = some (some (.drw (.inl k)))) (hm : m e = .ok d) (hd : d = nD n) (h0 : 0 < n) (h1 : n < 1000000) (q : ∀ i : Nat, i < n → Q (nD i)) : Always Q (call (pickF k) (argC (var i) (argC m argN)) e) := by
  rw [call_eq, argC_eq, var_eq h, bind_ok, argC_eq, hm, bind_ok, hd]
  exact pick_a h0 h1 q
theorem bitc {k : Bool} {e : Env} {i : Nat} (h : e[i]? = some (some (.drw (.inl k)))) : Always (fun d => ∃ a : Nat, a < 2 ∧ d = nD a) (call (pickF k) (argC (var i) (argC (cst (.int 2)) argN)) e) := pickc 2 h rfl rfl (by omega) (by omega) fun i hi => ⟨i, hi, rfl⟩
/-! ### statements -/
def NX (I : Env → Prop) (f : Fl) : Prop := ∃ e, f = .next e ∧ I e
theorem seq_a {P : Fl → Prop} {I : Env → Prop} {a b : SM} {e : Env} (h : Always (NX I) (a e)) (k : ∀ e', I e' → Always P (b e')) : Always P (seq a b e) := by
  rw [seq_eq]
  refine h.bind ?_
  rintro f ⟨e', rfl, hI⟩
  exact k e' hI
theorem asg_a {P : Fl → Prop} {Q : D → Prop} {i : Nat} {m : EM} {r : SM} {e : Env} (h : Always Q (m e)) (k : ∀ d, Q d → Always P (r (e.set i (some d)))) : Always P (seq (asg (gnm i) m) r e) := by
  rw [seq_eq, asg_eq]
  refine Always.bind (Q := fun f => ∃ d, Q d ∧ f = .next (e.set i (some d))) (h.bind fun d hd => ⟨d, hd, rfl⟩) ?_
  rintro f ⟨d, hd, rfl⟩
  exact k d hd
theorem asg_1 {P : Fl → Prop} {Q : D → Prop} {i : Nat} {m : EM} {e : Env} (h : Always Q (m e)) (k : ∀ d, Q d → P (.next (e.set i (some d)))) : Always P (asg (gnm i) m e) := by
  rw [asg_eq]
  exact h.bind fun d hd => k d hd
theorem ite_a {P : Fl → Prop} {t : TM} {a b : SM} {e : Env} {c : Bool} (h : t e = .ok c) (h1 : c = true → Always P (a e)) (h2 : c = false → Always P (b e)) : Always P (Py.ite t a b e) := by
  rw [ite_eq, h, bind_ok]
  cases c
  · exact h2 rfl
  · exact h1 rfl
theorem for_a {b : D → Env → Res Fl} (I : Nat → Env → Prop) : ∀ {xs : List D} {e : Env} (k : Nat), I k e → (∀ i e, (h : i < xs.length) → I (k + i) e → Always (NX (I (k + i + 1))) (b xs[i] e)) → Always (NX (I (k + xs.length))) (forL b xs e)
  | [], e, k, h, _ => ⟨e, rfl, h⟩
  | x :: xs, e, k, h, hb => by
    unfold forL
    refine (hb 0 e (by simp) h).bind ?_
    rintro f ⟨e1, rfl, h1⟩
    have q := for_a (b := b) I (xs := xs) (e := e1) (k + 1) h1 fun i e' hi hI => by
      have := hb (i + 1) e' (by simpa using hi) (by rwa [show k + (i + 1) = k + 1 + i by omega])
      rwa [show k + (i + 1) + 1 = k + 1 + i + 1 by omega] at this
    rwa [show k + (x :: xs).length = k + 1 + xs.length by simp; omega]
theorem forR_a {b : D → Env → Res Fl} (I : Nat → Env → Prop) {n : Nat} {e : Env} (h0 : I 0 e) (hb : ∀ i e, i < n → I i e → Always (NX (I (i + 1))) (b (nD i) e)) : Always (NX (I n)) (forL b ((List.range n).map nD) e) := by
  have q := for_a (b := b) (xs := (List.range n).map nD) (e := e) I 0 h0 fun i e' hi hI => by
    have hi' : i < n := by simpa using hi
    have := hb i e' hi' (by rwa [Nat.zero_add] at hI)
    rw [Nat.zero_add]
    simpa using this
  rwa [Nat.zero_add, List.length_map, List.length_range] at q
theorem irng_n {a : EM} {e : Env} {n : Nat} (h : a e = .ok (nD n)) (hn : n ≤ 1000) : irng1 a e = .ok ((List.range n).map nD) := irng1_nat h (rng_lt hn)
theorem for_s {P : Fl → Prop} {I : Env → Prop} {it : IM} {g : GM} {b r : SM} {e : Env} {xs : List D} (h : it e = .ok xs) (hb : Always (NX I) (forL (forB g b) xs e)) (k : ∀ e', I e' → Always P (r e')) : Always P (seq (for_ it g b) r e) := by
  refine seq_a (I := I) ?_ k
  rw [for_eq, h, bind_ok]
  exact hb
/-! ### comprehensions of numbers -/
def RowP (L B : Nat) (d : D) : Prop := ∃ r : List Nat, d = .lst (r.map nD) ∧ r.length = L ∧ ∀ x ∈ r, x < B
theorem comp_a {f : D → Res (Option D)} {B : Nat} : ∀ {xs : List D}, (∀ x ∈ xs, Always (fun o => ∃ a : Nat, a < B ∧ o = some (nD a)) (f x)) → Always (fun ys => ∃ r : List Nat, ys = r.map nD ∧ r.length = xs.length ∧ ∀ x ∈ r, x < B) (compL f xs)
  | [], _ => ⟨[], rfl, rfl, fun _ h => nomatch h⟩
  | x :: xs, h => by
    unfold compL
    refine (h x List.mem_cons_self).bind ?_
    rintro _ ⟨a, ha, rfl⟩
    refine (comp_a (xs := xs) fun y hy => h y (List.mem_cons_of_mem _ hy)).bind ?_
    rintro _ ⟨r, rfl, hl, hr⟩
    refine ⟨a :: r, rfl, by simp [hl], fun y hy => ?_⟩
    rcases List.mem_cons.mp hy with rfl | hy
    · exact ha
    · exact hr y hy
theorem lc_a {it : IM} {vs : List Nat} {j : Nat} {elt : EM} {e : Env} {xs : List D} {B : Nat} (hi : it e = .ok xs) (hz : xs.length ≤ SZ) (he : ∀ x ∈ xs, Always (fun d => ∃ a : Nat, a < B ∧ d = nD a) (elt ((wipe e vs).set j (some x)))) : Always (RowP xs.length B) (lcE it vs (gnm j) yes elt e) := by
  unfold lcE
  rw [hi, bind_ok]
  refine ((comp_a (B := B) fun x hx => ?_).noexc).bind ?_
  · unfold compF
    rw [gnm_eq]
    show Always _ (lift (some _) >>= _)
    rw [lift_some, bind_ok]
    show Always _ (Res.ok true >>= _)
    rw [bind_ok, if_pos rfl]
    refine (he x hx).bind ?_
    rintro _ ⟨a, ha, rfl⟩
    exact ⟨a, ha, rfl⟩
  · rintro _ ⟨r, rfl, hl, hr⟩
    rw [chk_ok hz]
    exact ⟨r, rfl, hl, hr⟩
end Py.U
/-! Classes of states and the least machine, as data. -/
namespace Py.U
theorem wh_next {t : TM} {b : SM} {n : Nat} {e e' : Env} (h : t e = .ok true) (hb : b e = .ok (.next e')) : whileL t b (n + 1) e = whileL t b n e' := by
  show (t e >>= _) = _
  rw [h, bind_ok, if_pos rfl, hb, bind_ok]
theorem wh_ret {t : TM} {b : SM} {n : Nat} {e : Env} {d : D} (h : t e = .ok true) (hb : b e = .ok (.ret d)) : whileL t b (n + 1) e = .ok (.ret d) := by
  show (t e >>= _) = _
  rw [h, bind_ok, if_pos rfl, hb, bind_ok]
theorem wh_stop {t : TM} {b : SM} {n : Nat} {e : Env} (h : t e = .ok false) : whileL t b (n + 1) e = .ok (.next e) := by
  show (t e >>= _) = _
  rw [h, bind_ok, if_neg (by decide)]
theorem asg_p {i : Nat} {m : EM} {r : SM} {e : Env} {d : D} (h : m e = .ok d) : seq (asg (gnm i) m) r e = r (e.set i (some d)) := by
  rw [seq_eq, asg_eq, h]
  rfl
theorem for_p {it : IM} {g : GM} {b r : SM} {e e' : Env} {xs : List D} (h : it e = .ok xs) (h2 : forL (forB g b) xs e = .ok (.next e')) : seq (for_ it g b) r e = r e' := by
  rw [seq_eq, for_eq, h, bind_ok, h2]
  rfl
/-! ### tables -/
def at1 (bs : List Nat) (a : Nat) : Nat := bs.getD a 0
def rw1 (t : List (List Nat)) (i : Nat) : List Nat := t.getD i []
/-- a table of S lines, each of L numbers below B -/
structure Tbl (S L B : Nat) (t : List (List Nat)) : Prop where
  len : t.length = S
  row : ∀ r ∈ t, r.length = L ∧ ∀ x ∈ r, x < B
theorem Tbl.at {S L B : Nat} {t : List (List Nat)} (h : Tbl S L B t) {i : Nat} (hi : i < S) : t[i]? = some (rw1 t i) ∧ (rw1 t i).length = L ∧ ∀ x ∈ rw1 t i, x < B := by
  have hl : i < t.length := by rw [h.len]; exact hi
  obtain ⟨h1, h2⟩ := h.row t[i] (List.getElem_mem hl)
  have e : rw1 t i = t[i] := by
    unfold rw1
    rw [List.getD_eq_getElem?_getD, List.getElem?_eq_getElem hl]
    rfl
  rw [e]
  exact ⟨List.getElem?_eq_getElem hl, h1, h2⟩
def macD (n : Nat) (nx os : List (List Nat)) : D := .ins "Machine" [("inputs", nD n), ("nexts", .tup (nx.map rD)), ("outs", .tup (os.map rD))]
theorem mac_nx (n : Nat) (nx os : List (List Nat)) : oattr ["Machine"] "nexts" (macD n nx os) = .ok (.tup (nx.map rD)) := rfl
theorem mac_os (n : Nat) (nx os : List (List Nat)) : oattr ["Machine"] "outs" (macD n nx os) = .ok (.tup (os.map rD)) := rfl
theorem idx_nL {c : List Nat} {i : Nat} (h : i < c.length) : oidx (.lst (c.map nD)) (nD i) = .ok (nD (at1 c i)) := by
  refine oidx_l ?_
  simp [at1, h]
theorem idx_tT {S L B : Nat} {t : List (List Nat)} (h : Tbl S L B t) {i : Nat} (hi : i < S) : oidx (.tup (t.map rD)) (nD i) = .ok (rD (rw1 t i)) := by
  refine oidx_t ?_
  rw [List.getElem?_map, (h.at hi).1]
  rfl
theorem lenN {α : Type} (l : List α) (f : α → D) : blen (.lst (l.map f)) = .ok (nD l.length) := by
  rw [blen_l, List.length_map]
  rfl
theorem szN {α : Type} {l : List α} {f : α → D} (h : l.length ≤ 1000) : (l.map f).length < SZ := by
  rw [List.length_map]
  exact Nat.lt_of_le_of_lt h (by decide)
/-! ### the greatest number -/
theorem foldI : ∀ (r : List Nat) (a : Nat), (r.map fun (n : Nat) => (n : Int)).foldl (fun a b => if b > a then b else a) (a : Int) = ((r.foldl max a : Nat) : Int)
  | [], a => rfl
  | x :: r, a => by
    rw [List.map_cons, List.foldl_cons, List.foldl_cons, ← foldI r (max a x)]
    congr 1
    by_cases h : (x : Int) > (a : Int)
    · rw [if_pos h, Nat.max_eq_right (by omega)]
    · rw [if_neg h, Nat.max_eq_left (by omega)]
theorem bmax_nD {c : List Nat} (h : 0 < c.length) : bmaxL (.lst (c.map nD)) = .ok (nD (mxN c)) := by
  cases c with
  | nil => simp at h
  | cons x r =>
    have e : (x :: r).map nD = ((x :: r).map fun (n : Nat) => (n : Int)).map D.int := by
      rw [List.map_map]
      rfl
    have e2 := intsOf_map ((x :: r).map fun (n : Nat) => (n : Int))
    rw [← e] at e2
    show (match intsOf ((x :: r).map nD) with | some (i :: is) => Res.ok (D.int (is.foldl (fun a b => if b > a then b else a) i)) | _ => .stuck) = _
    rw [e2]
    show Res.ok (D.int ((r.map fun (n : Nat) => (n : Int)).foldl (fun a b => if b > a then b else a) (x : Int))) = _
    rw [foldI]
    have e3 : mxN (x :: r) = r.foldl max x := by
      unfold mxN
      rw [List.foldl_cons, Nat.zero_max]
    rw [e3]
    rfl
def numF : List D → Res D := fn 1 4 numB
theorem numF_run {α : Type} [DecidableEq α] {kd : α → D} (h : KeyE true kd) {ks : List α} (hz : ks.length < SZ) : numF [.lst (ks.map kd)] = .ok (.lst ((numb ks).map nD)) := by
  have q := num_run h hz
  unfold numF
  rw [fn1]
  show done (numB [some (.lst (ks.map kd)), none, none, none]) = _
  rw [q]
  rfl
theorem nat_eqN (a b : Nat) : oeq (nD a) (nD b) = .ok (.bl (decide (a = b))) := by
  show oeq (.int (a : Int)) (.int (b : Int)) = _
  rw [oeq_ii]
  by_cases h : a = b
  · subst h; simp
  · have : ¬ ((a : Int) = (b : Int)) := by omega
    simp [h, this]
/-! ### classes -/
section
variable {S L : Nat} {nx : List (List Nat)}
theorem keyS_D (c : List Nat) (s : Nat) : kpD (keyS nx c s) = .tup [nD (at1 c s), rD ((rw1 nx s).map (at1 c))] := rfl
/-- the classes of a line's goals -/
theorem line_lc {it : IM} {e : Env} {i j : Nat} {c r : List Nat} (hi : it e = .ok (r.map nD)) (hz : r.length ≤ 1000) (h1 : e[i]? = some (some (.lst (c.map nD)))) (hij : i ≠ j) (hj : j < e.length) (hr : ∀ t ∈ r, t < c.length) :
    lcE it [j] (gnm j) yes (bin oidx (var i) (var j)) e = .ok (.lst ((r.map (at1 c)).map nD)) := by
  rw [List.map_map]
  refine lc_mapI (k := nD) hi (le_sz hz) fun y hy => ⟨_, rfl, ?_⟩
  have q := idx_nL (hr y hy)
  have v1 : var i (((wipe e [j])).set j (some (nD y))) = .ok (.lst (c.map nD)) := by
    refine var_eq ?_
    simp only [wipe]
    rw [List.getElem?_set_ne (Ne.symm hij), List.getElem?_set_ne (Ne.symm hij), h1]
  have v2 : var j (((wipe e [j])).set j (some (nD y))) = .ok (nD y) := by
    refine var_eq ?_
    simp only [wipe]
    rw [List.getElem?_set_self (by simpa using hj)]
  rw [bin_eq, v1, bind_ok, v2, bind_ok, q]
  rfl
def kyB : SM := app 2 (tupE (argC (bin oidx (var 1) (var 3)) (argC (un btuple (lcE (iseq (var 4)) [6] (gnm 6) yes (bin oidx (var 1) (var 6)))) argN)))
theorem ky_loop (h : Tbl S L S nx) (hz : S ≤ 1000) (hL : L ≤ 1000) {M : D} {c : List Nat} (hc : c.length = S) (o3 o4 o5 : Option D) :
    ∃ o3' o4', forL (forB (gtup [(gnm 3), (gnm 4)]) kyB) (enumL 0 (nx.map rD)) [some M, some (.lst (c.map nD)), some (.lst []), o3, o4, o5, none] = .ok (.next [some M, some (.lst (c.map nD)), some (.lst (((List.range S).map (keyS nx c)).map kpD)), o3', o4', o5, none]) := by
  have en : ∀ (ds : List D) (k : Nat), (enumL k ds).length = ds.length := by
    intro ds
    induction ds with
    | nil => intro k; rfl
    | cons d ds ih => intro k; simp [enumL, ih]
  have ea : ∀ (ds : List D) (k i : Nat), (enumL k ds)[i]? = (ds[i]?).map fun d => D.tup [.int ((k + i : Nat) : Int), d] := by
    intro ds
    induction ds with
    | nil => intro k i; rfl
    | cons d ds ih =>
      intro k i
      cases i with
      | zero => rfl
      | succ i =>
        show (enumL (k + 1) ds)[i]? = _
        rw [ih]
        congr 1
        funext d
        congr 3
        congr 1
        omega
  obtain ⟨e', q, o3', o4', rfl⟩ := forL_inv (b := forB (gtup [(gnm 3), (gnm 4)]) kyB) (xs := enumL 0 (nx.map rD)) (e := [some M, some (.lst (c.map nD)), some (.lst []), o3, o4, o5, none])
    (fun k E => ∃ o3' o4', E = [some M, some (.lst (c.map nD)), some (.lst (((List.range k).map (keyS nx c)).map kpD)), o3', o4', o5, none]) 0 ⟨o3, o4, rfl⟩ (by
      rintro k E hk ⟨o3', o4', rfl⟩
      have hk2 : k < S := by
        rw [en, List.length_map, h.len] at hk
        exact hk
      have e1 : (enumL 0 (nx.map rD))[k] = .tup [nD k, rD (rw1 nx k)] := by
        have := ea (nx.map rD) 0 k
        rw [List.getElem?_eq_getElem hk, List.getElem?_map, (h.at hk2).1, Nat.zero_add] at this
        exact Option.some.inj this
      have e2 := idx_nL (c := c) (i := k) (by omega)
      have hrl := (h.at hk2).2
      have e3 := line_lc (it := iseq (var 4)) (i := 1) (j := 6) (c := c) (r := rw1 nx k) (e := [some M, some (.lst (c.map nD)), some (.lst (((List.range k).map (keyS nx c)).map kpD)), some (nD k), some (rD (rw1 nx k)), o5, none]) rfl (by omega) rfl (by decide) (by simp) (fun t ht => by rw [hc]; exact hrl.2 t ht)
      have z : (((List.range k).map (keyS nx c)).map kpD).length < SZ := szN (by simp; omega)
      refine ⟨[some M, some (.lst (c.map nD)), some (.lst (((List.range (k + 1)).map (keyS nx c)).map kpD)), some (nD k), some (rD (rw1 nx k)), o5, none], ?_, _, _, by rw [Nat.zero_add]⟩
      rw [Nat.zero_add, List.range_succ, List.map_append, List.map_append, List.map_singleton, List.map_singleton, keyS_D, e1]
      have eR : rD ((rw1 nx k).map (at1 c)) = .tup (((rw1 nx k).map (at1 c)).map nD) := rfl
      rw [eR]
      rw [forB_eq]
      show (lift (some [some M, some (.lst (c.map nD)), some (.lst (((List.range k).map (keyS nx c)).map kpD)), some (nD k), some (rD (rw1 nx k)), o5, none]) >>= kyB) = _
      rw [lift_some, bind_ok]
      unfold kyB
      generalize ((rw1 nx k).map (at1 c)).map nD = G at *
      generalize nD (at1 c k) = A at *
      generalize ((List.range k).map (keyS nx c)).map kpD = KS at *
      generalize rD (rw1 nx k) = RK at *
      generalize nD k = KK at *
      generalize c.map nD = CC at *
      simp only [app_eq, tupE_eq, argC_eq, argN_eq, bin_eq, un_eq, var, List.getElem?_cons_succ, List.getElem?_cons_zero, bind_ok, e2, e3, btuple_l, List.length_cons, List.length_nil, Nat.zero_add, Nat.reduceAdd, chk_2, z, if_true, if_pos, List.set])
  rw [en, List.length_map, h.len, Nat.zero_add] at q
  exact ⟨o3', o4', q⟩
def scW : SM := (seq (asg (gnm 2) (lstE argN))
  (seq (for_ (ienum (un (oattr ["Machine"] "nexts") (var 0))) (gtup [(gnm 3), (gnm 4)]) kyB)
  (seq (asg (gnm 5) (call numF (argC (var 2) argN)))
  (seq (Py.ite (tst (bin oeq (un bmaxL (var 5)) (un bmaxL (var 1)))) (ret (var 1)) skip)
  (asg (gnm 1) (var 5))))))
theorem step_run (h : Tbl S L S nx) (h0 : 0 < S) (hz : S ≤ 1000) (hL : L ≤ 1000) {n : Nat} {os : List (List Nat)} {c : List Nat} (hc : c.length = S) (o2 o3 o4 o5 : Option D) :
    ∃ o2' o3' o4', scW [some (macD n nx os), some (.lst (c.map nD)), o2, o3, o4, o5, none] = .ok (if mxN (stepC nx c) = mxN c then .ret (.lst (c.map nD)) else .next [some (macD n nx os), some (.lst ((stepC nx c).map nD)), o2', o3', o4', some (.lst ((stepC nx c).map nD)), none]) := by
  obtain ⟨o3', o4', q⟩ := ky_loop h hz hL (M := macD n nx os) hc o3 o4 o5
  have e1 := mac_nx n nx os
  have sl : (stepC nx c).length = S := by rw [stepC_len, h.len]
  have e2 : numF [.lst (((List.range S).map (keyS nx c)).map kpD)] = .ok (.lst ((stepC nx c).map nD)) := by
    rw [numF_run key_kp (by simp; exact Nat.lt_of_le_of_lt hz (by decide))]
    unfold stepC
    rw [h.len]
  have e3 := bmax_nD (c := stepC nx c) (by omega)
  have e4 := bmax_nD (c := c) (by omega)
  have e5 := nat_eqN (mxN (stepC nx c)) (mxN c)
  refine ⟨some (.lst (((List.range S).map (keyS nx c)).map kpD)), o3', o4', ?_⟩
  unfold scW
  refine (asg_p (d := .lst []) (by simp)).trans ?_
  refine (for_p (xs := enumL 0 (nx.map rD)) ?_ q).trans ?_
  · generalize macD n nx os = M at *
    generalize nx.map rD = NX at *
    unfold ienum iseq
    simp [var, e1]
  generalize ((List.range S).map (keyS nx c)).map kpD = KS at *
  generalize macD n nx os = M at *
  generalize hs : (stepC nx c).map nD = SC at *
  generalize c.map nD = CC at *
  generalize hm1 : nD (mxN (stepC nx c)) = M1 at *
  generalize hm2 : nD (mxN c) = M2 at *
  by_cases hq : mxN (stepC nx c) = mxN c
  · rw [if_pos hq]
    rw [decide_eq_true hq] at e5
    simp [var, e2, e3, e4, e5]
  · rw [if_neg hq]
    rw [decide_eq_false hq] at e5
    simp [var, e2, e3, e4, e5]
theorem classes_loop (h : Tbl S L S nx) (h0 : 0 < S) (hz : S ≤ 1000) (hL : L ≤ 1000) {n : Nat} {os : List (List Nat)} : ∀ (k fu : Nat) (c : List Nat) (o2 o3 o4 o5 : Option D), Met S c → S ≤ mxN c + k + 1 → k < fu →
    whileL (tst (cst (.bl true))) scW fu [some (macD n nx os), some (.lst (c.map nD)), o2, o3, o4, o5, none] = .ok (.ret (.lst ((clsL nx c k).map nD)))
  | k, 0, c, o2, o3, o4, o5, _, _, hf => by omega
  | k, fu + 1, c, o2, o3, o4, o5, hm, hk, hf => by
    obtain ⟨o2', o3', o4', q⟩ := step_run h h0 hz hL (n := n) (os := os) hm.1 o2 o3 o4 o5
    have hlen := h.len
    obtain ⟨g1, g2⟩ := step_mx (nx := nx) (c := c) (by rw [hlen]; exact hm) (by omega)
    by_cases hq : mxN (stepC nx c) = mxN c
    · rw [if_pos hq] at q
      rw [wh_ret rfl q]
      cases k with
      | zero => rfl
      | succ k => rw [clsL, if_pos hq]
    · rw [if_neg hq] at q
      rw [wh_next rfl q]
      cases k with
      | zero => omega
      | succ k =>
        rw [clsL, if_neg hq]
        refine classes_loop h h0 hz hL k fu (stepC nx c) o2' o3' o4' _ ?_ (by omega) (by omega)
        have := met_step (nx := nx) (c := c)
        rw [hlen] at this
        exact this
def scB : SM := (seq (asg (gnm 1) (call numF (argC (un blist (un (oattr ["Machine"] "outs") (var 0))) argN)))
  (while_ (tst (cst (.bl true))) scW))
def scF : List D → Res D := fn 1 7 scB
/-- the classes of a machine's states -/
def clsM (nx os : List (List Nat)) : List Nat := clsL nx (numb os) nx.length
theorem scF_ok {n : Nat} {os : List (List Nat)} (h : Tbl S L S nx) (ho : os.length = S) (h0 : 0 < S) (hz : S ≤ 1000) (hL : L ≤ 1000) : scF [macD n nx os] = .ok (.lst ((clsM nx os).map nD)) := by
  have e1 := mac_os n nx os
  have e2 := numF_run key_rD (ks := os) (by rw [ho]; exact Nat.lt_of_le_of_lt hz (by decide))
  have e3 : blist (.tup (os.map rD)) = .ok (.lst (os.map rD)) := rfl
  have hm := met_numb os
  rw [ho] at hm
  have hmx := hm.1
  have q := classes_loop h h0 hz hL (n := n) (os := os) S FUEL (numb os) none none none none hm (by omega) (Nat.lt_of_le_of_lt hz (by decide))
  have ec : clsL nx (numb os) S = clsM nx os := by unfold clsM; rw [h.len]
  rw [ec] at q
  unfold scF
  rw [fn1]
  show done (scB [some (macD n nx os), none, none, none, none, none, none]) = _
  unfold scB
  rw [asg_p (d := .lst ((numb os).map nD)) ?_]
  · show done (whileL (tst (cst (.bl true))) scW FUEL [some (macD n nx os), some (.lst ((numb os).map nD)), none, none, none, none, none]) = _
    rw [q]
    rfl
  · generalize macD n nx os = M at *
    generalize os.map rD = OS at *
    generalize (numb os).map nD = NO at *
    simp only [call_eq, argC_eq, argN_eq, un_eq, var, List.getElem?_cons_zero, bind_ok, e1, e3, e2]
theorem clsM_lt {os : List (List Nat)} (h : Tbl S L S nx) (ho : os.length = S) (h0 : 0 < S) : (clsM nx os).length = S ∧ ∀ s, s < S → at1 (clsM nx os) s < S := by
  have hm := met_numb os
  rw [ho, ← h.len] at hm
  have hm2 := cls_met (nx := nx) nx.length (numb os) hm
  have hlen := h.len
  obtain ⟨g1, g2⟩ := step_mx hm2 (by omega)
  refine ⟨by show (clsL nx (numb os) nx.length).length = S; rw [hm2.1, hlen], fun s hs => ?_⟩
  have hmem : at1 (clsM nx os) s ∈ clsM nx os := by
    unfold at1
    have hl : s < (clsM nx os).length := by
      show s < (clsL nx (numb os) nx.length).length
      rw [hm2.1, hlen]
      exact hs
    rw [List.getD_eq_getElem?_getD, List.getElem?_eq_getElem hl]
    exact List.getElem_mem hl
  have := mx_ge hmem
  have e : mxN (clsM nx os) = mxN (clsL nx (numb os) nx.length) := rfl
  omega
end
end Py.U
/-! The search by levels, as data: the program's form and the laws' form. -/
namespace Py.U
section
variable {S L : Nat} {nx : List (List Nat)} {cls : List Nat}
def rowN (C : Nat → Nat) (nx : List (List Nat)) (f : List Nat) (s : Nat) : List Nat := (nx.getD s []).map fun t => (f.map C).idxOf (C t)
def dicC (C : Nat → Nat) (f : List Nat) : D := .dic false (tabF nD 0 (f.map C))
theorem stepT_mem (C : Nat → Nat) (f : List Nat) (t : Nat) : C t ∈ (stepT C f t).map C := by
  unfold stepT
  split
  · assumption
  · simp
theorem idx_pre {C : Nat → Nat} {f r : List Nat} {t : Nat} (h : C t ∈ f.map C) : ((f ++ r).map C).idxOf (C t) = (f.map C).idxOf (C t) := by
  rw [List.map_append]
  exact idx_app h
theorem dic_not {C : Nat → Nat} {f : List Nat} {t : Nat} (h : C t ∉ f.map C) : onotin (nD (C t)) (dicC C f) = .ok (.bl true) ∧ putD (nD (C t)) (nD f.length) (tabF nD 0 (f.map C)) = tabF nD 0 ((f ++ [t]).map C) := by
  have f1 := find_tabF key_nD (C t) (f.map C) 0
  rw [if_neg h] at f1
  refine ⟨?_, ?_⟩
  · show onotin (nD (C t)) (.dic false (tabF nD 0 (f.map C))) = _
    rw [onotin_dic (key_nD.ok _), f1]
    rfl
  · have := put_tabF key_nD (C t) (f.map C) 0 h
    rw [Nat.zero_add, List.length_map] at this
    rw [this, List.map_append]
    rfl
theorem dic_has {C : Nat → Nat} {f : List Nat} {t : Nat} (h : C t ∈ f.map C) : onotin (nD (C t)) (dicC C f) = .ok (.bl false) ∧ oidx (dicC C f) (nD (C t)) = .ok (nD ((f.map C).idxOf (C t))) := by
  have f1 := find_tabF key_nD (C t) (f.map C) 0
  rw [if_pos h, Nat.zero_add] at f1
  refine ⟨?_, oidx_dic (key_nD.ok _) f1⟩
  show onotin (nD (C t)) (.dic false (tabF nD 0 (f.map C))) = _
  rw [onotin_dic (key_nD.ok _), f1]
  rfl
/-! ### the program's form -/
def lmI : SM := (seq (Py.ite (tst (bin onotin (bin oidx (var 1) (var 6)) (var 3))) (seq (setL 3 (bin oidx (var 1) (var 6)) (un blen (var 2)))
  (app 2 (var 6))) skip)
  (app 5 (bin oidx (var 3) (bin oidx (var 1) (var 6)))))
theorem lmI_step {M A : D} {f g : List Nat} {t : Nat} (ht : t < cls.length) (hf : f.length < 1000) (hg : g.length ≤ 1000) (o6 : Option D) :
    forB (gnm 6) lmI (nD t) [some M, some (.lst (cls.map nD)), some (.lst (f.map nD)), some (dicC (at1 cls) f), some A, some (.lst (g.map nD)), o6, none] = .ok (.next [some M, some (.lst (cls.map nD)), some (.lst ((stepT (at1 cls) f t).map nD)), some (dicC (at1 cls) (stepT (at1 cls) f t)), some A, some (.lst ((g ++ [((stepT (at1 cls) f t).map (at1 cls)).idxOf (at1 cls t)]).map nD)), some (nD t), none]) := by
  have e1 := idx_nL ht
  have zg : (g.map nD).length < SZ := szN hg
  have zf : (f.map nD).length < SZ := szN (by omega)
  rw [forB_eq, gnm_eq, lift_some, bind_ok]
  unfold lmI
  show seq _ _ [some M, some (.lst (cls.map nD)), some (.lst (f.map nD)), some (dicC (at1 cls) f), some A, some (.lst (g.map nD)), some (nD t), none] = _
  rw [List.map_append, List.map_singleton]
  by_cases q : at1 cls t ∈ f.map (at1 cls)
  · have e : stepT (at1 cls) f t = f := if_pos q
    rw [e]
    obtain ⟨n1, g1⟩ := dic_has q
    generalize nD ((f.map (at1 cls)).idxOf (at1 cls t)) = N at *
    generalize dicC (at1 cls) f = DC at *
    generalize nD (at1 cls t) = K at *
    generalize g.map nD = G at *
    generalize cls.map nD = CL at *
    generalize nD t = T at *
    simp [var, e1, n1, g1, zg]
  · have e : stepT (at1 cls) f t = f ++ [t] := if_neg q
    obtain ⟨n1, p1⟩ := dic_not q
    have g1 := (dic_has (stepT_mem (at1 cls) f t)).2
    rw [e] at g1 ⊢
    have sl : setL 3 (bin oidx (var 1) (var 6)) (un blen (var 2)) [some M, some (.lst (cls.map nD)), some (.lst (f.map nD)), some (dicC (at1 cls) f), some A, some (.lst (g.map nD)), some (nD t), none] = .ok (.next [some M, some (.lst (cls.map nD)), some (.lst (f.map nD)), some (dicC (at1 cls) (f ++ [t])), some A, some (.lst (g.map nD)), some (nD t), none]) := by
      have b1 := lenN f nD
      have := setL_dic (i := 3) (j := bin oidx (var 1) (var 6)) (m := un blen (var 2)) (e := [some M, some (.lst (cls.map nD)), some (.lst (f.map nD)), some (dicC (at1 cls) f), some A, some (.lst (g.map nD)), some (nD t), none]) (t := false) (kvs := tabF nD 0 (f.map (at1 cls))) (k := nD (at1 cls t)) (d := nD f.length) rfl (by
        generalize f.map nD = FF at *
        simp [var, b1]) (by
        generalize cls.map nD = CL at *
        generalize nD t = T at *
        simp [var, e1]) (key_nD.ok _) (by rw [tabF_len, List.length_map]; exact Nat.lt_trans hf (by decide))
      rw [this, p1]
      rfl
    have ef : (f ++ [t]).map nD = f.map nD ++ [nD t] := by simp
    rw [ef]
    generalize nD (((f ++ [t]).map (at1 cls)).idxOf (at1 cls t)) = N at *
    generalize dicC (at1 cls) (f ++ [t]) = DC2 at *
    generalize dicC (at1 cls) f = DC at *
    generalize nD (at1 cls t) = K at *
    generalize g.map nD = G at *
    generalize f.map nD = FF at *
    generalize cls.map nD = CL at *
    generalize nD t = T at *
    simp [var, e1, n1, g1, zg, zf, sl]
theorem lm_inner {M A : D} (hcl : cls.length = S) (hz : S ≤ 999) (hC : ∀ s, s < S → at1 cls s < S) : ∀ (ts f g : List Nat) (o6 : Option D), Fnd (at1 cls) S f → (∀ t ∈ ts, t < S) → g.length + ts.length ≤ 1000 →
    ∃ o6', forL (forB (gnm 6) lmI) (ts.map nD) [some M, some (.lst (cls.map nD)), some (.lst (f.map nD)), some (dicC (at1 cls) f), some A, some (.lst (g.map nD)), o6, none] = .ok (.next [some M, some (.lst (cls.map nD)), some (.lst ((ts.foldl (stepT (at1 cls)) f).map nD)), some (dicC (at1 cls) (ts.foldl (stepT (at1 cls)) f)), some A, some (.lst ((g ++ ts.map fun t => ((ts.foldl (stepT (at1 cls)) f).map (at1 cls)).idxOf (at1 cls t)).map nD)), o6', none])
  | [], f, g, o6, _, _, _ => ⟨o6, by rw [List.map_nil, List.map_nil, List.append_nil]; rfl⟩
  | t :: ts, f, g, o6, hF, ht, hg => by
    have h1 := lmI_step (M := M) (A := A) (f := f) (g := g) (t := t) (by rw [hcl]; exact ht t List.mem_cons_self) (by have := hF.len hC; omega) (by simp at hg; omega) o6
    obtain ⟨o6', h2⟩ := lm_inner hcl hz hC (M := M) (A := A) ts (stepT (at1 cls) f t) (g ++ [((stepT (at1 cls) f t).map (at1 cls)).idxOf (at1 cls t)]) (some (nD t)) (hF.snoc (ht t List.mem_cons_self)) (fun x hx => ht x (List.mem_cons_of_mem _ hx)) (by simp at hg ⊢; omega)
    refine ⟨o6', ?_⟩
    rw [List.map_cons, forL, h1]
    obtain ⟨r, hr⟩ := foldT_pre (C := at1 cls) ts (stepT (at1 cls) f t)
    have e : ((stepT (at1 cls) f t).map (at1 cls)).idxOf (at1 cls t) = ((ts.foldl (stepT (at1 cls)) (stepT (at1 cls) f t)).map (at1 cls)).idxOf (at1 cls t) := by
      rw [hr, idx_pre (stepT_mem _ f t)]
    rw [List.append_assoc] at h2
    show forL _ _ _ = _
    rw [h2, List.foldl_cons, List.map_cons, e]
    rfl
def rowsA (C : Nat → Nat) (nx : List (List Nat)) (f : List Nat) (a : Nat) : List (List Nat) := (f.take a).map (rowN C nx f)
theorem rows_next {C : Nat → Nat} {n : Nat} {f : List Nat} {a : Nat} (hc : Cld C nx f a) (ha : a < f.length) : rowsA C nx (stepS C nx f (f.getD a 0)) (a + 1) = rowsA C nx f a ++ [rowN C nx (stepS C nx f (f.getD a 0)) (f.getD a 0)] := by
  obtain ⟨r, hr⟩ := stepS_pre (C := C) (nx := nx) f (f.getD a 0)
  unfold rowsA
  have e1 : (stepS C nx f (f.getD a 0)).take (a + 1) = f.take a ++ [f.getD a 0] := by
    rw [hr, List.take_append_of_le_length (by omega), List.take_add_one, List.getElem?_eq_getElem ha]
    simp [List.getD_eq_getElem?_getD, ha]
  rw [e1, List.map_append, List.map_singleton]
  congr 1
  refine List.map_congr_left fun s hs => ?_
  unfold rowN
  refine List.map_congr_left fun t ht => ?_
  obtain ⟨i, hi, rfl⟩ := List.mem_iff_getElem.mp hs
  rw [List.length_take] at hi
  have hi2 : i < a := by omega
  have e2 : (f.take a)[i] = f.getD i 0 := by
    rw [List.getElem_take, List.getD_eq_getElem?_getD, List.getElem?_eq_getElem (by omega)]
    rfl
  rw [e2] at ht
  rw [hr, idx_pre (hc i hi2 t ht)]
def lmW : SM := (seq (asg (gnm 5) (lstE argN))
  (seq (for_ (iseq (bin oidx (un (oattr ["Machine"] "nexts") (var 0)) (bin oidx (var 2) (un blen (var 4))))) (gnm 6) lmI)
  (app 4 (un btuple (var 5)))))
def lmT : TM := tst (bin olt (un blen (var 4)) (un blen (var 2)))
theorem oltN (a b : Nat) : olt (nD a) (nD b) = .ok (.bl (decide (a < b))) := by
  show olt (.int (a : Int)) (.int (b : Int)) = _
  rw [olt_ii]
  congr 2
  exact decide_eq_decide.mpr (by omega)
theorem lm_loop (h : Tbl S L S nx) (hz : S ≤ 999) (hL : L ≤ 1000) (hcl : cls.length = S) (hC : ∀ s, s < S → at1 cls s < S) {n : Nat} {os : List (List Nat)} : ∀ (k fu : Nat) (f : List Nat) (a : Nat) (o5 o6 : Option D), Fnd (at1 cls) S f → Cld (at1 cls) nx f a → a ≤ f.length → S ≤ a + k → k < fu →
    ∃ o5' o6', whileL lmT lmW fu [some (macD n nx os), some (.lst (cls.map nD)), some (.lst (f.map nD)), some (dicC (at1 cls) f), some (.lst ((rowsA (at1 cls) nx f a).map rD)), o5, o6, none] = .ok (.next [some (macD n nx os), some (.lst (cls.map nD)), some (.lst ((bfsL (at1 cls) nx k f a).map nD)), some (dicC (at1 cls) (bfsL (at1 cls) nx k f a)), some (.lst (((bfsL (at1 cls) nx k f a).map (rowN (at1 cls) nx (bfsL (at1 cls) nx k f a))).map rD)), o5', o6', none])
  | k, 0, f, a, o5, o6, _, _, _, _, hf => by omega
  | k, fu + 1, f, a, o5, o6, hF, hc, ha, hk, hf => by
    have hlf := hF.len hC
    have lr : (rowsA (at1 cls) nx f a).length = a := by
      unfold rowsA
      rw [List.length_map, List.length_take]
      omega
    have e1 := lenN (rowsA (at1 cls) nx f a) rD
    rw [lr] at e1
    have e2 := lenN f nD
    have e3 := oltN a f.length
    have ht : lmT [some (macD n nx os), some (.lst (cls.map nD)), some (.lst (f.map nD)), some (dicC (at1 cls) f), some (.lst ((rowsA (at1 cls) nx f a).map rD)), o5, o6, none] = .ok (decide (a < f.length)) := by
      unfold lmT
      generalize (rowsA (at1 cls) nx f a).map rD = R at *
      generalize f.map nD = FF at *
      generalize dicC (at1 cls) f = DC at *
      generalize macD n nx os = M at *
      generalize nD a = A at *
      generalize nD f.length = FL at *
      simp [var, e1, e2, e3]
    by_cases q : a < f.length
    · rw [decide_eq_true q] at ht
      cases k with
      | zero => omega
      | succ k =>
        have hs : f.getD a 0 < S := hF.lt _ (by
          rw [List.getD_eq_getElem?_getD, List.getElem?_eq_getElem q]
          exact List.getElem_mem q)
        have hN : ∀ t ∈ nx.getD (f.getD a 0) [], t < S := fun t ht => (h.at hs).2.2 t ht
        obtain ⟨g1, g2⟩ := hF.step (nx := nx) hN
        obtain ⟨r, hr⟩ := stepS_pre (C := at1 cls) (nx := nx) f (f.getD a 0)
        have hc' : Cld (at1 cls) nx (stepS (at1 cls) nx f (f.getD a 0)) (a + 1) := fun i hi t ht => by
          by_cases hia : i = a
          · subst hia
            have e : (stepS (at1 cls) nx f (f.getD i 0)).getD i 0 = f.getD i 0 := by rw [hr, getD_pre q]
            rw [e] at ht
            exact g2 t ht
          · have hi' : i < a := by omega
            have e : (stepS (at1 cls) nx f (f.getD a 0)).getD i 0 = f.getD i 0 := by rw [hr, getD_pre (by omega)]
            rw [e] at ht
            have := hc i hi' t ht
            rw [hr, List.map_append]
            exact List.mem_append_left _ this
        obtain ⟨o6', hi⟩ := lm_inner (M := macD n nx os) (A := .lst ((rowsA (at1 cls) nx f a).map rD)) hcl hz hC (nx.getD (f.getD a 0) []) f [] o6 hF hN (by
          have := (h.at hs).2.1
          unfold rw1 at this
          rw [this]
          simp
          exact hL)
        rw [List.nil_append] at hi
        have hb : lmW [some (macD n nx os), some (.lst (cls.map nD)), some (.lst (f.map nD)), some (dicC (at1 cls) f), some (.lst ((rowsA (at1 cls) nx f a).map rD)), o5, o6, none] = .ok (.next [some (macD n nx os), some (.lst (cls.map nD)), some (.lst ((stepS (at1 cls) nx f (f.getD a 0)).map nD)), some (dicC (at1 cls) (stepS (at1 cls) nx f (f.getD a 0))), some (.lst ((rowsA (at1 cls) nx (stepS (at1 cls) nx f (f.getD a 0)) (a + 1)).map rD)), some (.lst ((rowN (at1 cls) nx (stepS (at1 cls) nx f (f.getD a 0)) (f.getD a 0)).map nD)), o6', none]) := by
          have e4 := mac_nx n nx os
          have e5 : oidx (.lst (f.map nD)) (nD a) = .ok (nD (f.getD a 0)) := idx_nL q
          have e6 : oidx (.tup (nx.map rD)) (nD (f.getD a 0)) = .ok (.tup ((nx.getD (f.getD a 0) []).map nD)) := idx_tT h hs
          have zr : ((rowsA (at1 cls) nx f a).map rD).length < SZ := szN (by omega)
          rw [rows_next (n := S) hc q, List.map_append, List.map_singleton]
          change forL _ _ _ = .ok (.next [_, _, some (.lst ((stepS (at1 cls) nx f (f.getD a 0)).map nD)), some (dicC (at1 cls) (stepS (at1 cls) nx f (f.getD a 0))), _, some (.lst ((rowN (at1 cls) nx (stepS (at1 cls) nx f (f.getD a 0)) (f.getD a 0)).map nD)), _, _]) at hi
          unfold lmW
          refine (asg_p (d := .lst []) (by simp)).trans ?_
          refine (for_p (xs := (nx.getD (f.getD a 0) []).map nD) ?_ hi).trans ?_
          · generalize (rowsA (at1 cls) nx f a).map rD = R at *
            generalize (nx.getD (f.getD a 0) []).map nD = TS at *
            generalize f.map nD = FF at *
            generalize dicC (at1 cls) f = DC at *
            generalize macD n nx os = M at *
            generalize nx.map rD = NX at *
            generalize nD (f.getD a 0) = FA at *
            generalize nD a = A at *
            simp [var, e4, e1, e5, e6]
          · have er : rD (rowN (at1 cls) nx (stepS (at1 cls) nx f (f.getD a 0)) (f.getD a 0)) = .tup ((rowN (at1 cls) nx (stepS (at1 cls) nx f (f.getD a 0)) (f.getD a 0)).map nD) := rfl
            rw [er]
            generalize (rowN (at1 cls) nx (stepS (at1 cls) nx f (f.getD a 0)) (f.getD a 0)).map nD = RN at *
            generalize (rowsA (at1 cls) nx f a).map rD = R at *
            simp [var, zr]
        rw [wh_next ht hb, bfsL, if_pos q]
        exact lm_loop h hz hL hcl hC k fu _ (a + 1) _ _ g1 hc' (by rw [hr, List.length_append]; omega) (by omega) (by omega)
    · rw [decide_eq_false q] at ht
      have ea : a = f.length := by omega
      have eb : bfsL (at1 cls) nx k f a = f := by
        cases k with
        | zero => rfl
        | succ k => rw [bfsL, if_neg q]
      rw [wh_stop ht, eb]
      refine ⟨o5, o6, ?_⟩
      have er : rowsA (at1 cls) nx f a = f.map (rowN (at1 cls) nx f) := by
        unfold rowsA
        rw [ea, List.take_length]
      rw [er]
/-- the states found -/
def fndM (nx os : List (List Nat)) : List Nat := bfsL (at1 (clsM nx os)) nx nx.length [0] 0
def lsN (nx os : List (List Nat)) : List (List Nat) := (fndM nx os).map (rowN (at1 (clsM nx os)) nx (fndM nx os))
def lsO (nx os : List (List Nat)) : List (List Nat) := (fndM nx os).map (rw1 os)
theorem fnd_0 {C : Nat → Nat} {S : Nat} (h0 : 0 < S) : Fnd C S [0] := ⟨by simp, fun s hs => by rw [List.mem_singleton.mp hs]; exact h0⟩
theorem cld_0 {C : Nat → Nat} {f : List Nat} : Cld C nx f 0 := fun i hi => by omega
theorem fndM_ok {os : List (List Nat)} (h : Tbl S L S nx) (ho : os.length = S) (h0 : 0 < S) : Fnd (at1 (clsM nx os)) S (fndM nx os) ∧ Cld (at1 (clsM nx os)) nx (fndM nx os) (fndM nx os).length ∧ (fndM nx os).length ≤ S ∧ ∃ r, fndM nx os = [0] ++ r := by
  obtain ⟨c1, c2⟩ := clsM_lt h ho h0
  obtain ⟨g1, g2⟩ := bfs_ok (C := at1 (clsM nx os)) (nx := nx) (n := S) (fun s hs t ht => (h.at hs).2.2 t ht) nx.length [0] 0 (fnd_0 h0) cld_0 (by simp)
  have hl := g1.len c2
  exact ⟨g1, g2 (by have e := h.len; omega), hl, bfs_pre _ _ _⟩
theorem lsN_tbl {os : List (List Nat)} (h : Tbl S L S nx) (ho : os.length = S) (h0 : 0 < S) : Tbl (fndM nx os).length L (fndM nx os).length (lsN nx os) := by
  obtain ⟨g1, g2, g3, _⟩ := fndM_ok h ho h0
  refine ⟨by simp [lsN], fun r hr => ?_⟩
  obtain ⟨s, hs, rfl⟩ := List.mem_map.mp hr
  have hs2 := g1.lt s hs
  have hrow := (h.at hs2).2
  unfold rw1 at hrow
  refine ⟨by unfold rowN; rw [List.length_map]; exact hrow.1, fun x hx => ?_⟩
  obtain ⟨t, ht, rfl⟩ := List.mem_map.mp hx
  obtain ⟨i, hi, rfl⟩ := List.mem_iff_getElem.mp hs
  have e : (fndM nx os)[i] = (fndM nx os).getD i 0 := by rw [List.getD_eq_getElem?_getD, List.getElem?_eq_getElem hi]; rfl
  rw [e] at ht
  have := List.idxOf_lt_length_of_mem (g2 i hi t ht)
  simpa using this
theorem lsO_tbl {os : List (List Nat)} {B : Nat} (h : Tbl S L S nx) (ho : Tbl S L B os) (h0 : 0 < S) : Tbl (fndM nx os).length L B (lsO nx os) := by
  obtain ⟨g1, g2, g3, _⟩ := fndM_ok h ho.len h0
  refine ⟨by simp [lsO], fun r hr => ?_⟩
  obtain ⟨s, hs, rfl⟩ := List.mem_map.mp hr
  exact (ho.at (g1.lt s hs)).2
end
end Py.U
/-! The laws' form of the least machine. -/
/-! What a machine writes; the least machine writes the same; closures of searches. No program in sight. -/
namespace Py.U
/-! ### what is written -/
def wr (nx os : List (List Nat)) (s : Nat) : List Nat → List Nat
  | [] => []
  | l :: ls => at1 (rw1 os s) l :: wr nx os (at1 (rw1 nx s) l) ls
section
variable {α β : Type} [DecidableEq α] [DecidableEq β]
theorem idx_inj {l : List α} {x y : α} (hx : x ∈ l) (hy : y ∈ l) (h : l.idxOf x = l.idxOf y) : x = y := by
  have h1 := List.idxOf_lt_length_of_mem hx
  have h2 := List.idxOf_lt_length_of_mem hy
  have e1 : l[l.idxOf x] = x := List.getElem_idxOf h1
  have e2 : l[l.idxOf y] = y := List.getElem_idxOf h2
  rw [← e1, ← e2]
  congr 1
theorem at1_numb {ks : List α} {i : Nat} (h : i < ks.length) : at1 (numb ks) i = (uniq ks).idxOf ks[i] := by
  unfold at1 numb
  rw [List.getD_eq_getElem?_getD, List.getElem?_map, List.getElem?_eq_getElem h]
  rfl
theorem numb_inj {ks : List α} {i j : Nat} (hi : i < ks.length) (hj : j < ks.length) (h : at1 (numb ks) i = at1 (numb ks) j) : ks[i] = ks[j] := by
  rw [at1_numb hi, at1_numb hj] at h
  exact idx_inj (mem_uniq.mpr (List.getElem_mem hi)) (mem_uniq.mpr (List.getElem_mem hj)) h
theorem inj_of_len {f : α → β} {us : List α} {vs : List β} (hu : us.Nodup) (hv : vs.Nodup) (hs : ∀ v ∈ vs, ∃ u ∈ us, f u = v) (hl : us.length ≤ vs.length) {u u' : α} (h1 : u ∈ us) (h2 : u' ∈ us) (h : f u = f u') : u = u' := by
  by_cases q : u = u'
  · exact q
  · have sub : vs ⊆ (us.erase u).map f := fun v hv => by
      obtain ⟨w, hw, rfl⟩ := hs v hv
      by_cases e : w = u
      · rw [e, h]
        exact List.mem_map.mpr ⟨u', (List.mem_erase_of_ne (fun z => q z.symm)).mpr h2, rfl⟩
      · exact List.mem_map.mpr ⟨w, (List.mem_erase_of_ne e).mpr hw, rfl⟩
    have l1 := hv.length_le_of_subset sub
    rw [List.length_map, List.length_erase_of_mem h1] at l1
    have l2 := List.length_pos_of_mem h1
    omega
end
section
variable {S L : Nat} {nx os : List (List Nat)}
theorem rw1_get {t : List (List Nat)} {i : Nat} (h : i < t.length) : rw1 t i = t[i] := by
  unfold rw1
  rw [List.getD_eq_getElem?_getD, List.getElem?_eq_getElem h]
  rfl
def RefO (S : Nat) (os : List (List Nat)) (c : List Nat) : Prop := ∀ s s', s < S → s' < S → at1 c s = at1 c s' → rw1 os s = rw1 os s'
theorem step_key (h : Tbl S L S nx) {c : List Nat} {s s' : Nat} (hs : s < S) (hs' : s' < S) (e : at1 (stepC nx c) s = at1 (stepC nx c) s') : keyS nx c s = keyS nx c s' := by
  unfold stepC at e
  have l : ((List.range nx.length).map (keyS nx c)).length = S := by simp [h.len]
  have := numb_inj (ks := (List.range nx.length).map (keyS nx c)) (i := s) (j := s') (by omega) (by omega) e
  simpa using this
theorem refO_numb (ho : os.length = S) : RefO S os (numb os) := fun s s' hs hs' e => by
  have := numb_inj (ks := os) (i := s) (j := s') (by omega) (by omega) e
  rw [rw1_get (by omega), rw1_get (by omega)]
  exact this
theorem refO_cls (h : Tbl S L S nx) : ∀ (k : Nat) (c : List Nat), RefO S os c → RefO S os (clsL nx c k)
  | 0, c, hc => hc
  | k + 1, c, hc => by
    rw [clsL]
    split
    · exact hc
    · refine refO_cls h k _ fun s s' hs hs' e => hc s s' hs hs' ?_
      have := congrArg Prod.fst (step_key h hs hs' e)
      exact this
theorem cls_stable (h : Tbl S L S nx) (ho : os.length = S) (h0 : 0 < S) {s s' : Nat} (hs : s < S) (hs' : s' < S) (e : at1 (clsM nx os) s = at1 (clsM nx os) s') : keyS nx (clsM nx os) s = keyS nx (clsM nx os) s' := by
  have hm := met_numb os
  rw [ho, ← h.len] at hm
  have hn : 0 < nx.length := by rw [h.len]; exact h0
  have hm2 := cls_met (nx := nx) nx.length (numb os) hm
  have hend := cls_end hn nx.length (numb os) hm (by omega)
  change Met nx.length (clsM nx os) at hm2
  change mxN (stepC nx (clsM nx os)) = mxN (clsM nx os) at hend
  generalize clsM nx os = c at *
  have h1 := hm2.2 hn
  have h2 : mxN (stepC nx c) + 1 = _ := numb_mx (ks := (List.range nx.length).map (keyS nx c)) (by
    intro e
    have := congrArg List.length e
    simp at this
    rw [this] at hn
    simp at hn)
  have ec : c = ((List.range nx.length).map (keyS nx c)).map Prod.fst := by
    rw [List.map_map]
    exact (range_getD hm2.1).symm
  have mem : ∀ s, s < S → keyS nx c s ∈ uniq ((List.range nx.length).map (keyS nx c)) := fun s hs => mem_uniq.mpr (List.mem_map.mpr ⟨s, List.mem_range.mpr (by rw [h.len]; exact hs), rfl⟩)
  refine inj_of_len (f := Prod.fst) (uniq_nodup _) (uniq_nodup c) (fun v hv => ?_) (by omega) (mem s hs) (mem s' hs') e
  have hv2 := mem_uniq.mp hv
  rw [ec] at hv2
  obtain ⟨u, hu, rfl⟩ := List.mem_map.mp hv2
  exact ⟨u, mem_uniq.mpr hu, rfl⟩
theorem cls_goal (h : Tbl S L S nx) (ho : os.length = S) (h0 : 0 < S) {s s' l : Nat} (hs : s < S) (hs' : s' < S) (hl : l < L) (e : at1 (clsM nx os) s = at1 (clsM nx os) s') : at1 (clsM nx os) (at1 (rw1 nx s) l) = at1 (clsM nx os) (at1 (rw1 nx s') l) := by
  have k := congrArg Prod.snd (cls_stable h ho h0 hs hs' e)
  have l1 := (h.at hs).2.1
  have l2 := (h.at hs').2.1
  have k2 := congrArg (fun r => r.getD l 0) k
  simp only [keyS] at k2
  change ((rw1 nx s).map (at1 (clsM nx os))).getD l 0 = ((rw1 nx s').map (at1 (clsM nx os))).getD l 0 at k2
  rw [List.getD_eq_getElem?_getD, List.getD_eq_getElem?_getD, List.getElem?_map, List.getElem?_map, List.getElem?_eq_getElem (by omega), List.getElem?_eq_getElem (by omega)] at k2
  unfold at1 at k2 ⊢
  rw [List.getD_eq_getElem?_getD (l := rw1 nx s), List.getElem?_eq_getElem (by omega), List.getD_eq_getElem?_getD (l := rw1 nx s'), List.getElem?_eq_getElem (by omega)]
  exact k2
theorem at1_mem {r : List Nat} {l : Nat} (h : l < r.length) : at1 r l ∈ r := by
  unfold at1
  rw [List.getD_eq_getElem?_getD, List.getElem?_eq_getElem h]
  exact List.getElem_mem h
theorem rw1_map {f : Nat → List Nat} {F : List Nat} {i : Nat} (h : i < F.length) : rw1 (F.map f) i = f (F.getD i 0) := by
  unfold rw1
  rw [List.getD_eq_getElem?_getD, List.getElem?_map, List.getElem?_eq_getElem h, List.getD_eq_getElem?_getD, List.getElem?_eq_getElem h]
  rfl
theorem at1_map {f : Nat → Nat} {r : List Nat} {l : Nat} (h : l < r.length) : at1 (r.map f) l = f (at1 r l) := by
  unfold at1
  rw [List.getD_eq_getElem?_getD, List.getElem?_map, List.getElem?_eq_getElem h, List.getD_eq_getElem?_getD, List.getElem?_eq_getElem h]
  rfl
/-- the least machine writes the same -/
theorem ls_wr {B : Nat} (h : Tbl S L S nx) (ho : Tbl S L B os) (h0 : 0 < S) : ∀ (ls : List Nat), (∀ l ∈ ls, l < L) → ∀ i s, i < (fndM nx os).length → s < S → at1 (clsM nx os) ((fndM nx os).getD i 0) = at1 (clsM nx os) s → wr (lsN nx os) (lsO nx os) i ls = wr nx os s ls
  | [], _, i, s, _, _, _ => rfl
  | l :: ls, hl, i, s, hi, hs, e => by
    obtain ⟨g1, g2, g3, _⟩ := fndM_ok h ho.len h0
    have hFi : (fndM nx os).getD i 0 < S := g1.lt _ (by
      rw [List.getD_eq_getElem?_getD, List.getElem?_eq_getElem hi]
      exact List.getElem_mem hi)
    have hl0 := hl l List.mem_cons_self
    have ro : rw1 (lsO nx os) i = rw1 os ((fndM nx os).getD i 0) := rw1_map hi
    have rn : rw1 (lsN nx os) i = rowN (at1 (clsM nx os)) nx (fndM nx os) ((fndM nx os).getD i 0) := rw1_map hi
    have hrow := (h.at hFi).2
    have er : RefO S os (clsM nx os) := refO_cls h _ _ (refO_numb ho.len)
    unfold wr
    rw [ro, er _ _ hFi hs e]
    congr 1
    have en : at1 (rw1 (lsN nx os) i) l = ((fndM nx os).map (at1 (clsM nx os))).idxOf (at1 (clsM nx os) (at1 (rw1 nx ((fndM nx os).getD i 0)) l)) := by
      rw [rn]
      unfold rowN
      exact at1_map (show l < (rw1 nx ((fndM nx os).getD i 0)).length by omega)
    rw [en]
    have hin : at1 (clsM nx os) (at1 (rw1 nx ((fndM nx os).getD i 0)) l) ∈ (fndM nx os).map (at1 (clsM nx os)) := g2 i hi _ (at1_mem (r := rw1 nx ((fndM nx os).getD i 0)) (by omega))
    have hj := List.idxOf_lt_length_of_mem hin
    have ej := List.getElem_idxOf hj
    rw [List.length_map] at hj
    refine ls_wr h ho h0 ls (fun x hx => hl x (List.mem_cons_of_mem _ hx)) _ _ hj ((h.at hs).2.2 _ (at1_mem (by have := (h.at hs).2.1; omega))) ?_
    rw [List.getElem_map] at ej
    rw [List.getD_eq_getElem?_getD, List.getElem?_eq_getElem hj, Option.getD_some, ej]
    exact cls_goal h ho.len h0 hFi hs hl0 e
theorem ls_wr0 {B : Nat} (h : Tbl S L S nx) (ho : Tbl S L B os) (h0 : 0 < S) {ls : List Nat} (hl : ∀ l ∈ ls, l < L) : wr (lsN nx os) (lsO nx os) 0 ls = wr nx os 0 ls := by
  obtain ⟨g1, g2, g3, r, g4⟩ := fndM_ok h ho.len h0
  exact ls_wr h ho h0 ls hl 0 0 (by rw [g4]; simp) h0 (by rw [g4]; rfl)
end
/-! ### closures -/
section
variable {α : Type} [DecidableEq α]
theorem addU_pre (f : List α) (t : α) : ∃ r, addU f t = f ++ r := by
  unfold addU
  split
  · exact ⟨[], by simp⟩
  · exact ⟨[t], rfl⟩
theorem foldU_pre : ∀ (ts f : List α), ∃ r, ts.foldl addU f = f ++ r
  | [], f => ⟨[], by simp⟩
  | t :: ts, f => by
    obtain ⟨r, hr⟩ := addU_pre f t
    obtain ⟨r2, hr2⟩ := foldU_pre ts (f ++ r)
    exact ⟨r ++ r2, by rw [List.foldl_cons, hr, hr2, List.append_assoc]⟩
variable {succ : α → List α}
/-- the successors of the first a are found -/
def CldU (succ : α → List α) (f : List α) (a : Nat) : Prop := ∀ i p, i < a → f[i]? = some p → ∀ q ∈ succ p, q ∈ f
structure FndU (P : α → Prop) (f : List α) : Prop where
  nd : f.Nodup
  all : ∀ p ∈ f, P p
theorem FndU.step {P : α → Prop} (hP : ∀ p, P p → ∀ q ∈ succ p, P q) {f : List α} (h : FndU P f) {p : α} (hp : P p) : FndU P ((succ p).foldl addU f) ∧ ∀ q ∈ succ p, q ∈ (succ p).foldl addU f := by
  obtain ⟨h1, h2⟩ := foldU (succ p) f h.nd
  refine ⟨⟨h1, fun x hx => ?_⟩, fun q hq => (h2 q).mpr (.inr hq)⟩
  rcases (h2 x).mp hx with q | q
  · exact h.all x q
  · exact hP p hp x q
theorem CldU.step {f : List α} {a : Nat} (h : CldU succ f a) {p : α} (hp : f[a]? = some p) : CldU succ ((succ p).foldl addU f) (a + 1) := fun i x hi hx q hq => by
  obtain ⟨r, hr⟩ := foldU_pre (succ p) f
  have ha : a < f.length := by
    by_cases c : a < f.length
    · exact c
    · rw [List.getElem?_eq_none (by omega)] at hp
      cases hp
  rw [hr] at hx ⊢
  rw [List.getElem?_append_left (by omega)] at hx
  by_cases e : i = a
  · subst e
    rw [hp] at hx
    cases hx
    rw [← hr]
    have : ∀ (ts f : List α) (q : α), q ∈ ts → q ∈ ts.foldl addU f := by
      intro ts
      induction ts with
      | nil => intro f q h; cases h
      | cons t ts ih =>
        intro f q h
        rw [List.foldl_cons]
        rcases List.mem_cons.mp h with rfl | h
        · obtain ⟨r, hr⟩ := foldU_pre ts (addU f q)
          rw [hr]
          exact List.mem_append_left _ (mem_addU.mpr (.inr rfl))
        · exact ih _ q h
    exact this _ _ _ hq
  · exact List.mem_append_left _ (h i x (by omega) hx q hq)
/-- the numbers of the successors -/
def cn (succ : α → List α) (f : List α) (p : α) : List Nat := (succ p).map fun q => f.idxOf q
end
end Py.U
/-! The least of the least machine is itself. -/
namespace Py.U
theorem numb_same {α : Type} [DecidableEq α] {ks : List α} {i j : Nat} (hi : i < ks.length) (hj : j < ks.length) (h : ks[i] = ks[j]) : at1 (numb ks) i = at1 (numb ks) j := by
  rw [at1_numb hi, at1_numb hj, h]
theorem row_ext {r r' : List Nat} {L : Nat} {c : Nat → Nat} (h1 : r.length = L) (h2 : r'.length = L) (h : ∀ l, l < L → c (at1 r l) = c (at1 r' l)) : r.map c = r'.map c := by
  apply List.ext_getElem
  · simp [h1, h2]
  · intro i a b
    rw [List.length_map] at a b
    have q := h i (by omega)
    unfold at1 at q
    rw [List.getD_eq_getElem?_getD, List.getD_eq_getElem?_getD, List.getElem?_eq_getElem a, List.getElem?_eq_getElem b] at q
    simp only [List.getElem_map]
    exact q
section
variable {S L : Nat} {nx os : List (List Nat)}
theorem key_same (h : Tbl S L S nx) {c : List Nat} {s s' : Nat} (hs : s < S) (hs' : s' < S) (e : at1 c s = at1 c s') (eg : ∀ l, l < L → at1 c (at1 (rw1 nx s) l) = at1 c (at1 (rw1 nx s') l)) : at1 (stepC nx c) s = at1 (stepC nx c) s' := by
  unfold stepC
  have hl := h.len
  refine numb_same (by simp; omega) (by simp; omega) ?_
  simp only [List.getElem_map, List.getElem_range]
  unfold keyS
  exact Prod.ext e (row_ext (c := at1 c) (h.at hs).2.1 (h.at hs').2.1 eg)
def Rel (nx os : List (List Nat)) (c' : List Nat) (s s' : Nat) : Prop := ∃ i j, i < (fndM nx os).length ∧ j < (fndM nx os).length ∧ at1 (clsM nx os) ((fndM nx os).getD i 0) = at1 (clsM nx os) s ∧ at1 (clsM nx os) ((fndM nx os).getD j 0) = at1 (clsM nx os) s' ∧ at1 c' i = at1 c' j
theorem fnd_lt (h : Tbl S L S nx) (ho : os.length = S) (h0 : 0 < S) {i : Nat} (hi : i < (fndM nx os).length) : (fndM nx os).getD i 0 < S := by
  obtain ⟨g1, g2, g3, _⟩ := fndM_ok h ho h0
  exact g1.lt _ (by
      rw [List.getD_eq_getElem?_getD, List.getElem?_eq_getElem hi]
      exact List.getElem_mem hi)
theorem ls_goal (h : Tbl S L S nx) (ho : os.length = S) (h0 : 0 < S) {i l : Nat} (hi : i < (fndM nx os).length) (hl : l < L) : at1 (rw1 (lsN nx os) i) l < (fndM nx os).length ∧ at1 (clsM nx os) ((fndM nx os).getD (at1 (rw1 (lsN nx os) i) l) 0) = at1 (clsM nx os) (at1 (rw1 nx ((fndM nx os).getD i 0)) l) := by
  obtain ⟨g1, g2, g3, _⟩ := fndM_ok h ho h0
  have hFi := fnd_lt h ho h0 hi
  have rn : rw1 (lsN nx os) i = rowN (at1 (clsM nx os)) nx (fndM nx os) ((fndM nx os).getD i 0) := rw1_map hi
  have hrow := (h.at hFi).2
  have en : at1 (rw1 (lsN nx os) i) l = ((fndM nx os).map (at1 (clsM nx os))).idxOf (at1 (clsM nx os) (at1 (rw1 nx ((fndM nx os).getD i 0)) l)) := by
    rw [rn]
    unfold rowN
    exact at1_map (show l < (rw1 nx ((fndM nx os).getD i 0)).length by omega)
  have hin : at1 (clsM nx os) (at1 (rw1 nx ((fndM nx os).getD i 0)) l) ∈ (fndM nx os).map (at1 (clsM nx os)) := g2 i hi _ (at1_mem (r := rw1 nx ((fndM nx os).getD i 0)) (by omega))
  have hj := List.idxOf_lt_length_of_mem hin
  have ej := List.getElem_idxOf hj
  rw [List.length_map] at hj
  rw [en]
  refine ⟨hj, ?_⟩
  rw [List.getElem_map] at ej
  rw [List.getD_eq_getElem?_getD, List.getElem?_eq_getElem hj, Option.getD_some, ej]
theorem rel_goal {B : Nat} (h : Tbl S L S nx) (ho : Tbl S L B os) (h0 : 0 < S) {s s' l : Nat} (hs : s < S) (hs' : s' < S) (hl : l < L) (r : Rel nx os (clsM (lsN nx os) (lsO nx os)) s s') : Rel nx os (clsM (lsN nx os) (lsO nx os)) (at1 (rw1 nx s) l) (at1 (rw1 nx s') l) := by
  obtain ⟨i, j, hi, hj, e1, e2, e3⟩ := r
  have t1 := lsN_tbl h ho.len h0
  have t2 := lsO_tbl h ho h0
  obtain ⟨a1, a2⟩ := ls_goal h ho.len h0 hi hl
  obtain ⟨b1, b2⟩ := ls_goal h ho.len h0 hj hl
  have m0 : 0 < (fndM nx os).length := by omega
  exact ⟨_, _, a1, b1, a2.trans (cls_goal h ho.len h0 (fnd_lt h ho.len h0 hi) hs hl e1), b2.trans (cls_goal h ho.len h0 (fnd_lt h ho.len h0 hj) hs' hl e2), cls_goal t1 t2.len m0 hi hj hl e3⟩
theorem rel_cls {B : Nat} (h : Tbl S L S nx) (ho : Tbl S L B os) (h0 : 0 < S) : ∀ (k : Nat) (c : List Nat), (∀ s s', s < S → s' < S → Rel nx os (clsM (lsN nx os) (lsO nx os)) s s' → at1 c s = at1 c s') → ∀ s s', s < S → s' < S → Rel nx os (clsM (lsN nx os) (lsO nx os)) s s' → at1 (clsL nx c k) s = at1 (clsL nx c k) s'
  | 0, c, hc => hc
  | k + 1, c, hc => by
    rw [clsL]
    split
    · exact hc
    · refine rel_cls h ho h0 k _ fun s s' hs hs' r => key_same h hs hs' (hc s s' hs hs' r) fun l hl => hc _ _ ?_ ?_ (rel_goal h ho h0 hs hs' hl r)
      · exact (h.at hs).2.2 _ (at1_mem (by have := (h.at hs).2.1; omega))
      · exact (h.at hs').2.2 _ (at1_mem (by have := (h.at hs').2.1; omega))
theorem ls_inj {B : Nat} (h : Tbl S L S nx) (ho : Tbl S L B os) (h0 : 0 < S) {i j : Nat} (hi : i < (fndM nx os).length) (hj : j < (fndM nx os).length) (e : at1 (clsM (lsN nx os) (lsO nx os)) i = at1 (clsM (lsN nx os) (lsO nx os)) j) : i = j := by
  have t1 := lsN_tbl h ho.len h0
  have t2 := lsO_tbl h ho h0
  have er : RefO S os (clsM nx os) := refO_cls h _ _ (refO_numb ho.len)
  have er2 : RefO (fndM nx os).length (lsO nx os) (clsM (lsN nx os) (lsO nx os)) := refO_cls t1 _ _ (refO_numb t2.len)
  have q : at1 (clsM nx os) ((fndM nx os).getD i 0) = at1 (clsM nx os) ((fndM nx os).getD j 0) := by
    refine rel_cls h ho h0 nx.length (numb os) (fun s s' hs hs' r => ?_) _ _ (fnd_lt h ho.len h0 hi) (fnd_lt h ho.len h0 hj) ⟨i, j, hi, hj, rfl, rfl, e⟩
    obtain ⟨i, j, hi, hj, e1, e2, e3⟩ := r
    have q1 : rw1 (lsO nx os) i = rw1 os ((fndM nx os).getD i 0) := rw1_map hi
    have q2 : rw1 (lsO nx os) j = rw1 os ((fndM nx os).getD j 0) := rw1_map hj
    have q3 := er2 i j hi hj e3
    rw [q1, q2, er _ _ (fnd_lt h ho.len h0 hi) hs e1, er _ _ (fnd_lt h ho.len h0 hj) hs' e2] at q3
    have hl := ho.len
    refine numb_same (by omega) (by omega) ?_
    rwa [rw1_get (by omega), rw1_get (by omega)] at q3
  obtain ⟨g1, g2, g3, _⟩ := fndM_ok h ho.len h0
  have hn := g1.nd
  rw [List.getD_eq_getElem?_getD, List.getElem?_eq_getElem hi, List.getD_eq_getElem?_getD, List.getElem?_eq_getElem hj] at q
  have a1 := hn.idxOf_getElem i (by simpa using hi)
  have a2 := hn.idxOf_getElem j (by simpa using hj)
  rw [List.getElem_map] at a1 a2
  rw [← a1, ← a2]
  rw [Option.getD_some, Option.getD_some] at q
  rw [q]
/-! ### the search in the least machine -/
def Inj (C' : Nat → Nat) (m : Nat) : Prop := ∀ i j, i < m → j < m → C' i = C' j → i = j
theorem inj_mem {C' : Nat → Nat} {m : Nat} (h : Inj C' m) {u k : Nat} (hu : u < m) (hk : k ≤ m) : C' u ∈ (List.range k).map C' ↔ u < k := by
  constructor
  · intro q
    obtain ⟨v, hv, e⟩ := List.mem_map.mp q
    have hv := List.mem_range.mp hv
    rw [← h v u (by omega) hu e]
    exact hv
  · intro q
    exact List.mem_map.mpr ⟨u, List.mem_range.mpr q, rfl⟩
theorem sim_fold {C C' : Nat → Nat} {F : List Nat} (hnd : (F.map C).Nodup) (hi : Inj C' F.length) : ∀ (ts f r : List Nat), F = ts.foldl (stepT C) f ++ r → (ts.map fun t => (F.map C).idxOf (C t)).foldl (stepT C') (List.range f.length) = List.range (ts.foldl (stepT C) f).length
  | [], f, r, _ => rfl
  | t :: ts, f, r, hF => by
    rw [List.foldl_cons] at hF ⊢
    rw [List.map_cons, List.foldl_cons]
    obtain ⟨r2, hr2⟩ := foldT_pre (C := C) ts (stepT C f t)
    have hF2 := hF
    rw [hr2] at hF2
    have hm : C t ∈ F.map C := by
      rw [hF2, List.append_assoc, List.map_append]
      exact List.mem_append_left _ (stepT_mem C f t)
    have hu := List.idxOf_lt_length_of_mem hm
    rw [List.length_map] at hu
    have key : stepT C' (List.range f.length) ((F.map C).idxOf (C t)) = List.range (stepT C f t).length := by
      by_cases c : C t ∈ f.map C
      · have e : stepT C f t = f := if_pos c
        rw [e] at hF2 ⊢
        have hl : (F.map C).idxOf (C t) < f.length := by
          rw [hF2, List.append_assoc, List.map_append, idx_app c]
          have := List.idxOf_lt_length_of_mem c
          simpa using this
        have hle : f.length ≤ F.length := by rw [hF2]; simp
        exact if_pos ((inj_mem hi hu hle).mpr hl)
      · have e : stepT C f t = f ++ [t] := if_neg c
        rw [e] at hF2 ⊢
        have hl : (F.map C).idxOf (C t) = f.length := by
          rw [hF2, List.append_assoc, List.append_assoc, List.map_append, List.idxOf_append, if_neg c]
          simp
        have hle : f.length ≤ F.length := by rw [hF2]; simp
        have n : ¬ C' ((F.map C).idxOf (C t)) ∈ (List.range f.length).map C' := fun q => by
          have := (inj_mem hi hu hle).mp q
          omega
        unfold stepT
        rw [if_neg n, hl, List.length_append, List.length_singleton, List.range_succ]
    rw [key]
    exact sim_fold hnd hi ts (stepT C f t) r hF
theorem sim_bfs {C C' : Nat → Nat} {F : List Nat} (hnd : (F.map C).Nodup) (hi : Inj C' F.length) : ∀ (k : Nat) (f : List Nat) (a : Nat), bfsL C nx k f a = F → bfsL C' (F.map (rowN C nx F)) k (List.range f.length) a = List.range F.length
  | 0, f, a, h => by
    simp only [bfsL] at h
    subst h
    rfl
  | k + 1, f, a, h => by
    rw [bfsL] at h ⊢
    rw [List.length_range]
    by_cases c : a < f.length
    · rw [if_pos c] at h ⊢
      obtain ⟨r, hr⟩ := bfs_pre (C := C) (nx := nx) k (stepS C nx f (f.getD a 0)) (a + 1)
      rw [h] at hr
      obtain ⟨r2, hr2⟩ := stepS_pre (C := C) (nx := nx) f (f.getD a 0)
      have hFa : F.getD a 0 = f.getD a 0 := by
        rw [hr, hr2, List.append_assoc]
        exact getD_pre c
      have haF : a < F.length := by rw [hr, hr2]; simp; omega
      have e1 : (List.range f.length).getD a 0 = a := by
        rw [List.getD_eq_getElem?_getD, List.getElem?_range c]
        rfl
      have e2 : (F.map (rowN C nx F)).getD a [] = rowN C nx F (f.getD a 0) := by
        rw [← hFa]
        exact rw1_map haF
      have e3 : stepS C' (F.map (rowN C nx F)) (List.range f.length) a = List.range (stepS C nx f (f.getD a 0)).length := by
        unfold stepS
        rw [e2]
        exact sim_fold hnd hi _ _ r hr
      rw [e1, e3]
      exact sim_bfs hnd hi k _ (a + 1) h
    · rw [if_neg c] at h ⊢
      rw [h]
theorem bfs_more {C : Nat → Nat} {n : Nat} (hN : ∀ s, s < n → ∀ t ∈ nx.getD s [], t < n) (hC : ∀ s, s < n → C s < n) {f : List Nat} (hF : Fnd C n f) : ∀ j, bfsL C nx n f 0 = bfsL C nx (n + j) f 0
  | 0 => rfl
  | j + 1 => (bfs_more hN hC hF j).trans (bfs_fuel (m := n) hN hC (n + j) f 0 hF (by omega))
theorem ls_fnd {B : Nat} (h : Tbl S L S nx) (ho : Tbl S L B os) (h0 : 0 < S) : fndM (lsN nx os) (lsO nx os) = List.range (fndM nx os).length := by
  have t1 := lsN_tbl h ho.len h0
  have t2 := lsO_tbl h ho h0
  obtain ⟨g1, g2, g3, r, g4⟩ := fndM_ok h ho.len h0
  have m0 : 0 < (fndM nx os).length := by rw [g4]; simp
  have hi : Inj (at1 (clsM (lsN nx os) (lsO nx os))) (fndM nx os).length := fun i j a b e => ls_inj h ho h0 a b e
  obtain ⟨_, c2⟩ := clsM_lt t1 t2.len m0
  have q := sim_bfs (nx := nx) g1.nd hi S [0] 0 (by unfold fndM; rw [h.len])
  have hm : (fndM nx os).length + (S - (fndM nx os).length) = S := by omega
  have e := bfs_more (nx := lsN nx os) (C := at1 (clsM (lsN nx os) (lsO nx os))) (n := (fndM nx os).length) (fun s hs t ht => (t1.at hs).2.2 t ht) c2 (fnd_0 m0) (S - (fndM nx os).length)
  rw [hm] at e
  have : fndM (lsN nx os) (lsO nx os) = bfsL (at1 (clsM (lsN nx os) (lsO nx os))) (lsN nx os) (fndM nx os).length [0] 0 := by
    unfold fndM
    rw [t1.len]
    rfl
  rw [this, e]
  exact q
end
end Py.U
namespace Py.U
open PySem
theorem nat_eq (a b : Nat) : oeq (nD a) (nD b) = .ok (.bl (decide (a = b))) := by
  unfold nD
  rw [oeq_ii]
  congr 2
  rw [Bool.eq_iff_iff]
  simp only [beq_iff_eq, decide_eq_true_eq]
  exact Int.ofNat_inj
theorem nadd (a b : Nat) : oadd (nD a) (nD b) = .ok (nD (a + b)) := by
  unfold nD
  rw [oadd_ii]
  rfl
theorem enum_at {ds : List D} {k i : Nat} (h : i < (enumL k ds).length) (h2 : i < ds.length) : (enumL k ds)[i] = .tup [.int ((k + i : Nat) : Int), ds[i]] := by
  induction ds generalizing k i with
  | nil => simp at h2
  | cons d ds ih =>
    cases i with
    | zero => rfl
    | succ i =>
      simp only [enumL, List.getElem_cons_succ]
      rw [ih (k := k + 1) _ (by simpa using h2)]
      rw [show k + 1 + i = k + (i + 1) by omega]
theorem enum_len : ∀ (ds : List D) (k : Nat), (enumL k ds).length = ds.length
  | [], _ => rfl
  | d :: ds, k => by
    simp only [enumL, List.length_cons]
    rw [enum_len ds]
theorem isint_ok (n : Nat) : m_is_integer [nD n] = .ok (.bl true) := by
  have h1 : oisi CS [.int] (nD n) = .ok (.bl true) := rfl
  have h2 : oisi CS [.bl] (nD n) = .ok (.bl false) := rfl
  unfold m_is_integer
  rw [fn1]
  unfold b_is_integer
  generalize nD n = N at *
  simp [var, h1, h2]
theorem is_below_ok (a b : Nat) : m_is_below [nD a, nD b] = .ok (.bl (decide (a < b))) := by
  have h := isint_ok a
  have h1 : ole (.int 0) (nD a) = .ok (.bl true) := by
    unfold nD
    rw [ole_ii, decide_eq_true (by omega)]
  have h2 : olt (nD a) (nD b) = .ok (.bl (decide (a < b))) := by
    unfold nD
    rw [olt_ii]
    congr 2
    exact decide_eq_decide.mpr (by omega)
  unfold m_is_below
  rw [fn2]
  unfold b_is_below
  generalize nD a = A at *
  generalize nD b = B at *
  simp [var, h, h1, h2]
theorem shl_nD {n : Nat} (h : n ≤ 1000) : oshl (.int 1) (nD n) = .ok (nD (2 ^ n)) := by
  unfold nD
  rw [oshl1 n h]
  simp
/-! ### the same? -/
/-! ### the row is made -/
theorem inputs_ok {n : Nat} (h1 : 1 ≤ n) (h3 : n ≤ 3) : m_is_inputs [nD n] = .ok (.bl true) := by
  have : n = 1 ∨ n = 2 ∨ n = 3 := by omega
  rcases this with rfl | rfl | rfl <;> rfl
theorem made_eq {p n : Nat} {cls : String} {body : SM} {ds : List D} {c : String} {fs : List (String × D)} {r : Env} (hl : ds.length + 1 = p) (h : body ((some (.ins cls []) :: ds.map some) ++ List.replicate (n - p) none) = .ok (.next (some (.ins c fs) :: r))) : made p n cls body ds = .ok (.ins c fs) := by
  unfold made
  rw [if_pos hl, h]
  rfl
/-! ### numbers from nought -/
theorem nsub {a b : Nat} (h : b ≤ a) : osub (nD a) (nD b) = .ok (nD (a - b)) := by
  unfold nD
  rw [osub_ii]
  congr 2
  omega
/-! ### letters drawn -/
theorem shl_bit {b : Nat} (hb : b = 0 ∨ b = 1) {p : Nat} (h : p ≤ 1000) : oshl (nD b) (nD p) = .ok (nD (b * 2 ^ p)) := by
  unfold nD
  rw [oshl_bit (by omega) p h]
  simp
theorem chk_pass {c : TM} {r b : SM} {e : Env} (h : c e = .ok false) : seq (Py.ite c b skip) r e = r e := by
  refine seq_next ?_
  unfold Py.ite
  rw [h, bind_ok]
  rfl
theorem asg_pass {i : Nat} {m : EM} {r : SM} {e : Env} {d : D} (h : m e = .ok d) : seq (asg (gnm i) m) r e = r (e.set i (some d)) := by
  refine seq_next ?_
  rw [asg_eq, h]
  rfl
theorem for_pass {it : IM} {g : GM} {b r : SM} {e e' : Env} {xs : List D} (h : it e = .ok xs) (h2 : forL (forB g b) xs e = .ok (.next e')) : seq (for_ it g b) r e = r e' := by
  refine seq_next ?_
  rw [for_eq, h]
  exact h2
/-! ### deeds drawn -/
theorem nmul {a b : Nat} (h : a ≤ 1000) : omul (nD a) (nD b) = .ok (nD (a * b)) := by
  unfold nD
  rw [omul_l (by omega) (by omega)]
  simp
theorem line_ok {r : List Nat} {L B : Nat} (hl : r.length = L) (hb : ∀ x ∈ r, x < B) (hz : L ≤ 1000) : m_is_line [rD r, nD L, nD B] = .ok (.bl true) := by
  have h1 : oisi CS [.tup] (rD r) = .ok (.bl true) := rfl
  have h2 : blen (rD r) = .ok (nD L) := by
    unfold rD
    rw [blen_t, List.length_map, hl]
    rfl
  have h3 : Py.one (nD L) (nD L) = .ok (.bl false) := by
    unfold nD
    rw [one_ii]
    simp
  have hc : lcE (iseq (var 0)) [3] (gnm 3) yes (call m_is_below (argC (var 3) (argC (var 2) argN))) [some (rD r), some (nD L), some (nD B), none] = .ok (.lst (r.map fun _ => .bl true)) := by
    refine lc_mapI (k := nD) (by simp [var, rD]) (by rw [hl]; exact le_sz hz) fun a ha => ?_
    have q := is_below_ok a B
    rw [decide_eq_true (hb a ha)] at q
    generalize nD a = A at *
    generalize nD B = N at *
    exact ⟨_, rfl, by simp only [wipe]; simp [var, q]⟩
  have hb2 : ball (.lst (r.map fun _ => .bl true)) = .ok (.bl true) := by
    have := ball_bools (r.map fun _ => true)
    rw [List.map_map] at this
    refine this.trans ?_
    rw [show (r.map fun _ => true).all id = true by simp]
  unfold m_is_line
  rw [fn3]
  unfold b_is_line
  generalize D.lst (r.map fun _ => .bl true) = Z at *
  generalize rD r = R at *
  generalize nD L = l at *
  generalize nD B = b at *
  simp [var, h1, h2, h3, hc, hb2]
theorem as_tup (ds : List D) : m_as_tuple [.lst ds] = .ok (.tup ds) := by
  have h : oisi CS [.lst, .tup] (.lst ds) = .ok (.bl true) := rfl
  unfold m_as_tuple
  rw [fn1]
  unfold b_as_tuple
  simp [var, h]
theorem nexts_ok {S L : Nat} {nx : List (List Nat)} (h : Tbl S L S nx) (hS : 0 < S) (hz : S ≤ 1000) (hL : L ≤ 1000) : m_right_nexts [.lst (nx.map rD), nD L] = .ok (.tup (nx.map rD)) := by
  have q1 := as_tup (nx.map rD)
  have q2 : truthy (.tup (nx.map rD)) = .ok true := by
    cases hx : nx with
    | nil =>
      have := h.len
      rw [hx] at this
      simp at this
      omega
    | cons a b => simp [truthy]
  have q3 : blen (.tup (nx.map rD)) = .ok (nD S) := by
    rw [blen_t, List.length_map, h.len]
    rfl
  have loop : ∃ e', forL (forB (gtup [(gnm 3), (gnm 4)]) (Py.ite (notT (tst (call m_is_line (argC (var 4) (argC (var 1) (argC (un blen (var 2)) argN)))))) (rais "InvalidMachine" ["part", "place"] (argC (cst (.str "nexts")) (argC (var 3) argN))) skip)) (enumL 0 (nx.map rD)) [some (.lst (nx.map rD)), some (nD L), some (.tup (nx.map rD)), none, none] = .ok (.next e') ∧ ∃ o3 o4, e' = [some (.lst (nx.map rD)), some (nD L), some (.tup (nx.map rD)), o3, o4] := by
    refine forL_inv (fun k e => ∃ o3 o4, e = [some (.lst (nx.map rD)), some (nD L), some (.tup (nx.map rD)), o3, o4]) 0 ⟨none, none, rfl⟩ ?_
    rintro k e hk ⟨o3, o4, rfl⟩
    have hk2 : k < nx.length := by
      rw [enum_len, List.length_map] at hk
      exact hk
    obtain ⟨h1, h2⟩ := h.row nx[k] (List.getElem_mem hk2)
    have q := line_ok h1 h2 hL
    rw [enum_at hk (by simpa using hk2), List.getElem_map, Nat.zero_add]
    generalize (k : Int) = z at *
    generalize rD nx[k] = R at *
    generalize nx.map rD = NX at *
    generalize nD L = l at *
    generalize nD S = s at *
    exact ⟨[some (.lst NX), some l, some (.tup NX), some (.int z), some R], by simp [var, gtup, gtupL, q, q3], _, _, rfl⟩
  obtain ⟨e', q4, o3, o4, rfl⟩ := loop
  have q5 : ienum (var 2) [some (.lst (nx.map rD)), some (nD L), some (.tup (nx.map rD)), none, none] = .ok (enumL 0 (nx.map rD)) := rfl
  unfold m_right_nexts
  rw [fn2]
  unfold b_right_nexts
  generalize hNX : nx.map rD = NX at *
  generalize nD L = l at *
  generalize enumL 0 NX = E at *
  simp [var, q1, q2, q4, q5]
theorem outs_ok {S L : Nat} {os : List (List Nat)} (h : Tbl S L 2 os) (hz : S ≤ 1000) (hL : L ≤ 1000) : m_right_outs [.lst (os.map rD), nD L, nD S] = .ok (.tup (os.map rD)) := by
  have q1 := as_tup (os.map rD)
  have q2 : oisN (.tup (os.map rD)) = .ok (.bl false) := rfl
  have q3 : blen (.tup (os.map rD)) = .ok (nD S) := by
    rw [blen_t, List.length_map, h.len]
    rfl
  have q4 : bmin2 (nD S) (nD S) = .ok (nD S) := by
    unfold nD bmin2
    simp
  have q5 : Py.one (nD S) (nD S) = .ok (.bl false) := by
    unfold nD
    rw [one_ii]
    simp
  have loop : ∃ e', forL (forB (gnm 5) (Py.ite (notT (tst (call m_is_line (argC (bin oidx (var 3) (var 5)) (argC (var 1) (argC (cst (.int 2)) argN)))))) (rais "InvalidMachine" ["part", "place"] (argC (cst (.str "outs")) (argC (var 5) argN))) skip)) ((List.range S).map fun i => .int ((i : Nat) : Int)) [some (.lst (os.map rD)), some (nD L), some (nD S), some (.tup (os.map rD)), some (nD S), none] = .ok (.next e') ∧ ∃ o5, e' = [some (.lst (os.map rD)), some (nD L), some (nD S), some (.tup (os.map rD)), some (nD S), o5] := by
    refine forR_inv (fun k e => ∃ o5, e = [some (.lst (os.map rD)), some (nD L), some (nD S), some (.tup (os.map rD)), some (nD S), o5]) ⟨none, rfl⟩ ?_
    rintro k e hk ⟨o5, rfl⟩
    have hk2 : k < os.length := by rw [h.len]; exact hk
    obtain ⟨h1, h2⟩ := h.row os[k] (List.getElem_mem hk2)
    have q := line_ok h1 h2 hL
    have q0 : oidx (.tup (os.map rD)) (.int (k : Int)) = .ok (rD os[k]) := oidx_t (k := k) (by simp [hk2])
    change m_is_line [_, _, .int 2] = _ at q
    generalize (k : Int) = z at *
    generalize rD os[k] = R at *
    generalize os.map rD = OS at *
    generalize nD L = l at *
    generalize nD S = s at *
    exact ⟨[some (.lst OS), some l, some s, some (.tup OS), some s, some (.int z)], by simp [var, q, q0], _, rfl⟩
  obtain ⟨e', q6, o5, rfl⟩ := loop
  have hr : irng1 (var 4) [some (.lst (os.map rD)), some (nD L), some (nD S), some (.tup (os.map rD)), some (nD S), none] = .ok ((List.range S).map fun i => .int ((i : Nat) : Int)) := irng1_nat (by simp [var, nD]) (rng_lt hz)
  unfold m_right_outs
  rw [fn3]
  unfold b_right_outs
  generalize hOS : os.map rD = OS at *
  generalize nD L = l at *
  generalize nD S = s at *
  simp [var, q1, q2, q3, q4, q5, q6, hr]
theorem mach_made {n S : Nat} {nx os : List (List Nat)} (h1 : 1 ≤ n) (h3 : n ≤ 3) (hn : Tbl S (2 ^ n) S nx) (ho : Tbl S (2 ^ n) 2 os) (hS : 0 < S) (hz : S ≤ 1000) : m_Machine [nD n, .lst (nx.map rD), .lst (os.map rD)] = .ok (macD n nx os) := by
  have hP : 2 ^ n ≤ 8 := by
    have : n = 1 ∨ n = 2 ∨ n = 3 := by omega
    rcases this with rfl | rfl | rfl <;> decide
  have q1 := inputs_ok h1 h3
  have q2 := shl_nD (n := n) (by omega)
  have q3 := nexts_ok hn hS hz (by omega)
  have q4 := outs_ok ho hz (by omega)
  have q5 : blen (.tup (nx.map rD)) = .ok (nD S) := by
    rw [blen_t, List.length_map, hn.len]
    rfl
  have q6 : oattr ["Machine"] "nexts" (.ins "Machine" [("inputs", nD n), ("nexts", .tup (nx.map rD))]) = .ok (.tup (nx.map rD)) := rfl
  have key : b_Machine_init [some (.ins "Machine" []), some (nD n), some (.lst (nx.map rD)), some (.lst (os.map rD)), none] = .ok (.next [some (macD n nx os), some (nD n), some (.lst (nx.map rD)), some (.lst (os.map rD)), some (nD (2 ^ n))]) := by
    unfold b_Machine_init macD
    generalize nx.map rD = NX at *
    generalize os.map rD = OS at *
    generalize nD (2 ^ n) = P at *
    generalize nD n = N at *
    generalize nD S = s at *
    simp [var, q1, q2, q3, q4, q5, q6, setF, putF]
  exact made_eq rfl key
theorem mac_in (n : Nat) (nx os : List (List Nat)) : oattr ["Machine"] "inputs" (macD n nx os) = .ok (nD n) := rfl
/-! ### the least machine by the program -/
theorem pow3 {n : Nat} (h1 : 1 ≤ n) (h3 : n ≤ 3) : 2 ^ n ≤ 8 := by
  have : n = 1 ∨ n = 2 ∨ n = 3 := by omega
  rcases this with rfl | rfl | rfl <;> decide
theorem least_ok {n S : Nat} {nx os : List (List Nat)} (h1 : 1 ≤ n) (h3 : n ≤ 3) (h : Tbl S (2 ^ n) S nx) (ho : Tbl S (2 ^ n) 2 os) (h0 : 0 < S) (hz : S ≤ 999) : m_least_machine [macD n nx os] = .ok (macD n (lsN nx os) (lsO nx os)) := by
  have p8 := pow3 h1 h3
  have e1 : m_state_classes [macD n nx os] = .ok (.lst ((clsM nx os).map nD)) := scF_ok h ho.len h0 (by omega) (by omega)
  obtain ⟨c1, c2⟩ := clsM_lt h ho.len h0
  obtain ⟨g1, g2, g3, r, g4⟩ := fndM_ok h ho.len h0
  obtain ⟨o5, o6, q⟩ := lm_loop h hz (by omega) c1 c2 (n := n) (os := os) S FUEL [0] 0 none none (fnd_0 h0) cld_0 (by simp) (by omega) (Nat.lt_of_le_of_lt hz (by decide))
  have eb : bfsL (at1 (clsM nx os)) nx S [0] 0 = fndM nx os := by unfold fndM; rw [h.len]
  rw [eb] at q
  have ix0 : oidx (.lst ((clsM nx os).map nD)) (.int 0) = .ok (nD (at1 (clsM nx os) 0)) := idx_nL (i := 0) (by omega)
  have d1 : dic1 false (bin oidx (var 1) (cst (.int 0))) (cst (.int 0)) [some (macD n nx os), some (.lst ((clsM nx os).map nD)), some (.lst ([0].map nD)), none, none, none, none, none] = .ok (dicC (at1 (clsM nx os)) [0]) := dic1_eq (by
    show (oidx (.lst ((clsM nx os).map nD)) (.int 0)) = _
    exact ix0) rfl (key_nD.ok _)
  have lo : lcE (iseq (var 2)) [7] (gnm 7) yes (bin oidx (un (oattr ["Machine"] "outs") (var 0)) (var 7)) [some (macD n nx os), some (.lst ((clsM nx os).map nD)), some (.lst ((fndM nx os).map nD)), some (dicC (at1 (clsM nx os)) (fndM nx os)), some (.lst (((fndM nx os).map (rowN (at1 (clsM nx os)) nx (fndM nx os))).map rD)), o5, o6, none] = .ok (.lst ((lsO nx os).map rD)) := by
    have hO : (lsO nx os).map rD = (fndM nx os).map fun s => rD (rw1 os s) := by
      unfold lsO
      rw [List.map_map]
      rfl
    rw [hO]
    refine lc_mapI (k := nD) (ys := fndM nx os) rfl (le_sz (by omega)) fun y hy => ⟨_, rfl, ?_⟩
    have q := idx_tT ho (g1.lt y hy)
    have i3 := mac_os n nx os
    show _ = Res.ok (rD (rw1 os y))
    generalize rD (rw1 os y) = R at *
    generalize macD n nx os = M at *
    generalize os.map rD = OS at *
    generalize nD y = Y at *
    simp only [wipe]
    simp [var, q, i3]
  have mm := mach_made h1 h3 (lsN_tbl h ho.len h0) (lsO_tbl h ho h0) (by rw [g4]; simp) (by omega)
  have mi := mac_in n nx os
  unfold m_least_machine
  rw [fn1]
  unfold b_least_machine
  refine (congrArg done ((asg_pass (d := .lst ((clsM nx os).map nD)) ?_).trans ?_)).trans (done_ret _)
  · generalize macD n nx os = M at *
    simp [var, e1]
  refine (asg_pass (d := .lst ([0].map nD)) (by simp; rfl)).trans ?_
  refine (asg_pass d1).trans ?_
  refine (asg_pass (d := .lst []) (by simp)).trans ?_
  refine (seq_next (e' := [some (macD n nx os), some (.lst ((clsM nx os).map nD)), some (.lst ((fndM nx os).map nD)), some (dicC (at1 (clsM nx os)) (fndM nx os)), some (.lst (((fndM nx os).map (rowN (at1 (clsM nx os)) nx (fndM nx os))).map rD)), o5, o6, none]) q).trans ?_
  rw [ret_eq, call_eq, argC_eq, argC_eq, argC_eq, lo]
  change m_Machine [nD n, .lst (((fndM nx os).map (rowN (at1 (clsM nx os)) nx (fndM nx os))).map rD), .lst ((lsO nx os).map rD)] = _ at mm
  generalize macD n (lsN nx os) (lsO nx os) = RES at *
  generalize macD n nx os = M at *
  generalize ((fndM nx os).map (rowN (at1 (clsM nx os)) nx (fndM nx os))).map rD = R1 at *
  generalize (lsO nx os).map rD = R2 at *
  simp [var, mi, mm]
theorem as_tup_t (ds : List D) : m_as_tuple [.tup ds] = .ok (.tup ds) := by
  have h : oisi CS [.lst, .tup] (.tup ds) = .ok (.bl true) := rfl
  unfold m_as_tuple
  rw [fn1]
  unfold b_as_tuple
  simp [var, h]
theorem outs_ok_t {S L : Nat} {os : List (List Nat)} (h : Tbl S L 2 os) (hz : S ≤ 1000) (hL : L ≤ 1000) : m_right_outs [.tup (os.map rD), nD L, nD S] = .ok (.tup (os.map rD)) := by
  have q1 := as_tup_t (os.map rD)
  have q2 : oisN (.tup (os.map rD)) = .ok (.bl false) := rfl
  have q3 : blen (.tup (os.map rD)) = .ok (nD S) := by
    rw [blen_t, List.length_map, h.len]
    rfl
  have q4 : bmin2 (nD S) (nD S) = .ok (nD S) := by
    unfold nD bmin2
    simp
  have q5 : Py.one (nD S) (nD S) = .ok (.bl false) := by
    unfold nD
    rw [one_ii]
    simp
  have loop : ∃ e', forL (forB (gnm 5) (Py.ite (notT (tst (call m_is_line (argC (bin oidx (var 3) (var 5)) (argC (var 1) (argC (cst (.int 2)) argN)))))) (rais "InvalidMachine" ["part", "place"] (argC (cst (.str "outs")) (argC (var 5) argN))) skip)) ((List.range S).map fun i => .int ((i : Nat) : Int)) [some (.tup (os.map rD)), some (nD L), some (nD S), some (.tup (os.map rD)), some (nD S), none] = .ok (.next e') ∧ ∃ o5, e' = [some (.tup (os.map rD)), some (nD L), some (nD S), some (.tup (os.map rD)), some (nD S), o5] := by
    refine forR_inv (fun k e => ∃ o5, e = [some (.tup (os.map rD)), some (nD L), some (nD S), some (.tup (os.map rD)), some (nD S), o5]) ⟨none, rfl⟩ ?_
    rintro k e hk ⟨o5, rfl⟩
    have hk2 : k < os.length := by rw [h.len]; exact hk
    obtain ⟨h1, h2⟩ := h.row os[k] (List.getElem_mem hk2)
    have q := line_ok h1 h2 hL
    have q0 : oidx (.tup (os.map rD)) (.int (k : Int)) = .ok (rD os[k]) := oidx_t (k := k) (by simp [hk2])
    change m_is_line [_, _, .int 2] = _ at q
    generalize (k : Int) = z at *
    generalize rD os[k] = R at *
    generalize os.map rD = OS at *
    generalize nD L = l at *
    generalize nD S = s at *
    exact ⟨[some (.tup OS), some l, some s, some (.tup OS), some s, some (.int z)], by simp [var, q, q0], _, rfl⟩
  obtain ⟨e', q6, o5, rfl⟩ := loop
  have hr : irng1 (var 4) [some (.tup (os.map rD)), some (nD L), some (nD S), some (.tup (os.map rD)), some (nD S), none] = .ok ((List.range S).map fun i => .int ((i : Nat) : Int)) := irng1_nat (by simp [var, nD]) (rng_lt hz)
  unfold m_right_outs
  rw [fn3]
  unfold b_right_outs
  generalize hOS : os.map rD = OS at *
  generalize nD L = l at *
  generalize nD S = s at *
  simp [var, q1, q2, q3, q4, q5, q6, hr]
end Py.U
namespace Py.U
open PySem
/-! ### machines drawn -/
abbrev poolD : D := .drw (.inl false)
def lD (r : List Nat) : D := .lst (r.map nD)
theorem Tbl.snoc {S L B : Nat} {t : List (List Nat)} (h : Tbl S L B t) {r : List Nat} (h1 : r.length = L) (h2 : ∀ x ∈ r, x < B) : Tbl (S + 1) L B (t ++ [r]) := by
  refine ⟨by rw [List.length_append, h.len]; rfl, fun x hx => ?_⟩
  rcases List.mem_append.mp hx with hx | hx
  · exact h.row x hx
  · rw [List.mem_singleton.mp hx]
    exact ⟨h1, h2⟩
theorem Tbl.up {S L B B' : Nat} {t : List (List Nat)} (h : Tbl S L B t) (hB : B ≤ B') : Tbl S L B' t := ⟨h.len, fun x hx => ⟨(h.row x hx).1, fun y hy => Nat.lt_of_lt_of_le ((h.row x hx).2 y hy) hB⟩⟩
theorem tbl_nil {L B : Nat} : Tbl 0 L B [] := ⟨rfl, fun x hx => nomatch hx⟩
/-- a row of draws -/
theorem draw_row {e : Env} {i j L B : Nat} {hi : TM} (h1 : e[0]? = some (some poolD)) (hj : 0 < j) (hL : e[i]? = some (some (nD L))) (hz : L ≤ 8) {m : EM} (hm : ∀ x : Nat, x < L → Always (fun d => ∃ a : Nat, a < B ∧ d = nD a) (m ((wipe e [j]).set j (some (nD x))))) :
    Always (RowP L B) (lcE (irng1 (var i)) [j] (gnm j) yes m e) := by
  have q := lc_a (vs := [j]) (j := j) (elt := m) (e := e) (B := B) (irng_n (var_eq hL) (by omega)) (by rw [List.length_map, List.length_range]; exact le_sz (by omega)) fun x hx => by
    obtain ⟨k, hk, rfl⟩ := List.mem_map.mp hx
    exact hm k (List.mem_range.mp hk)
  rwa [List.length_map, List.length_range] at q
theorem app_a {P : Fl → Prop} {Q : D → Prop} {i : Nat} {m : EM} {e : Env} {xs : List D} (h : e[i]? = some (some (.lst xs))) (hz : xs.length < SZ) (hm : Always Q (m e)) (k : ∀ d, Q d → P (.next (e.set i (some (.lst (xs ++ [d])))))) : Always P (app i m e) := by
  rw [app_eq, var_eq h, bind_ok]
  refine hm.bind fun d hd => ?_
  show Always P (if xs.length < SZ then _ else _)
  rw [if_pos hz]
  exact k d hd
def anyA : SM := Py.ite (tst (bin oeq (var 2) (cst (.int 1)))) (app 6 (lcE (irng1 (var 1)) [9] (gnm 9) yes (bin oadd (var 8) (call m_law_pick (argC (var 0) (argC (bin osub (var 3) (var 8)) argN)))))) (app 6 (lcE (irng1 (var 1)) [9] (gnm 9) yes (call m_law_pick (argC (var 0) (argC (var 3) argN)))))
def anyC : SM := Py.ite (tst (bin oeq (var 2) (cst (.int 2)))) (app 7 (lcE (iseq (var 4)) [10] (gnm 10) yes (bin oxor (var 10) (un bint (bin oeq (var 8) (var 5)))))) (app 7 (lcE (irng1 (var 1)) [9] (gnm 9) yes (call m_law_pick (argC (var 0) (argC (cst (.int 2)) argN)))))
theorem int1 (k : Nat) : oeq (nD k) (.int 1) = .ok (.bl (decide (k = 1))) := nat_eq k 1
theorem int0 (k : Nat) : oeq (nD k) (.int 0) = .ok (.bl (decide (k = 0))) := nat_eq k 0
theorem int2 (k : Nat) : oeq (nD k) (.int 2) = .ok (.bl (decide (k = 2))) := nat_eq k 2
theorem add1 (k : Nat) : oadd (.int 1) (nD k) = .ok (nD (1 + k)) := nadd 1 k
theorem addk1 (k : Nat) : oadd (nD k) (.int 1) = .ok (nD (k + 1)) := nadd k 1
theorem mul2 (k : Nat) : omul (.int 2) (nD k) = .ok (nD (2 * k)) := nmul (a := 2) (by omega)
theorem xor_bit {a : Nat} (ha : a < 2) (c : Bool) : ∃ b : Nat, b < 2 ∧ oxor (nD a) (.int (b2i c)) = .ok (nD b) := by
  have : a = 0 ∨ a = 1 := by omega
  rcases this with rfl | rfl <;> cases c
  · exact ⟨0, by omega, rfl⟩
  · exact ⟨1, by omega, rfl⟩
  · exact ⟨1, by omega, rfl⟩
  · exact ⟨0, by omega, rfl⟩
theorem tsz {S L B : Nat} {t : List (List Nat)} (h : Tbl S L B t) (hz : S ≤ 1000) : (t.map lD).length < SZ := by
  rw [List.length_map, h.len]
  exact Nat.lt_of_le_of_lt hz (by decide)
/-- a table's next row -/
theorem any_nx {L n k kind : Nat} (hL : L ≤ 8) (hk : k < n) (hn : n ≤ 1000) {t : List (List Nat)} (h : Tbl k L n t) {o4 o5 o7 o9 o10 : Option D} :
    Always (NX fun e' => ∃ t', Tbl (k + 1) L n t' ∧ e' = [some poolD, some (nD L), some (nD kind), some (nD n), o4, o5, some (.lst (t'.map lD)), o7, some (nD k), o9, o10]) (anyA [some poolD, some (nD L), some (nD kind), some (nD n), o4, o5, some (.lst (t.map lD)), o7, some (nD k), o9, o10]) := by
  have hz := tsz h (by omega)
  have fin : ∀ d, RowP L n d → NX (fun e' => ∃ t', Tbl (k + 1) L n t' ∧ e' = [some poolD, some (nD L), some (nD kind), some (nD n), o4, o5, some (.lst (t'.map lD)), o7, some (nD k), o9, o10]) (.next [some poolD, some (nD L), some (nD kind), some (nD n), o4, o5, some (.lst (t.map lD ++ [d])), o7, some (nD k), o9, o10]) := by
    rintro d ⟨r, rfl, h1, h2⟩
    exact ⟨_, rfl, t ++ [r], h.snoc h1 h2, by rw [List.map_append]; rfl⟩
  refine ite_a (c := decide (kind = 1)) ?_ (fun _ => ?_) fun _ => ?_
  · have := int1 kind
    generalize nD kind = K at *
    simp [var, this]
  · refine app_a rfl hz (draw_row (hi := tst (cst (.bl true))) rfl (by omega) rfl hL fun x hx => ?_) fin
    have hs := nsub (a := n) (b := k) (by omega)
    have e1 : ((bin oadd (var 8) (call m_law_pick (argC (var 0) (argC (bin osub (var 3) (var 8)) argN)))) : EM) ((wipe [some poolD, some (nD L), some (nD kind), some (nD n), o4, o5, some (.lst (t.map lD)), o7, some (nD k), o9, o10] [9]).set 9 (some (nD x))) = (pickF false [.drw (.inl false), nD (n - k)] >>= fun y => oadd (nD k) y) := by
      simp only [wipe]
      simp [var, hs]
    rw [e1]
    refine pick_b (by omega) (by omega) fun i hi => ?_
    rw [nadd]
    exact ⟨k + i, by omega, rfl⟩
  · refine app_a rfl hz (draw_row (hi := tst (cst (.bl true))) rfl (by omega) rfl hL fun x hx => ?_) fin
    exact pickc n rfl rfl rfl (by omega) (by omega) fun i hi => ⟨i, hi, rfl⟩
theorem any_os {L n k kind other : Nat} {told : List Nat} (hL : L ≤ 8) (hk : k < n) (hn : n ≤ 1000) (ht : told.length = L ∧ ∀ x ∈ told, x < 2) {t : List (List Nat)} (h : Tbl k L 2 t) {o6 o9 o10 : Option D} :
    Always (NX fun e' => ∃ t', Tbl (k + 1) L 2 t' ∧ e' = [some poolD, some (nD L), some (nD kind), some (nD n), some (.lst (told.map nD)), some (nD other), o6, some (.lst (t'.map lD)), some (nD k), o9, o10]) (anyC [some poolD, some (nD L), some (nD kind), some (nD n), some (.lst (told.map nD)), some (nD other), o6, some (.lst (t.map lD)), some (nD k), o9, o10]) := by
  have hz := tsz h (by omega)
  have fin : ∀ d, RowP L 2 d → NX (fun e' => ∃ t', Tbl (k + 1) L 2 t' ∧ e' = [some poolD, some (nD L), some (nD kind), some (nD n), some (.lst (told.map nD)), some (nD other), o6, some (.lst (t'.map lD)), some (nD k), o9, o10]) (.next [some poolD, some (nD L), some (nD kind), some (nD n), some (.lst (told.map nD)), some (nD other), o6, some (.lst (t.map lD ++ [d])), some (nD k), o9, o10]) := by
    rintro d ⟨r, rfl, h1, h2⟩
    exact ⟨_, rfl, t ++ [r], h.snoc h1 h2, by rw [List.map_append]; rfl⟩
  refine ite_a (c := decide (kind = 2)) ?_ (fun _ => ?_) fun _ => ?_
  · have := int2 kind
    generalize nD kind = K at *
    simp [var, this]
  · refine app_a rfl hz (Q := RowP L 2) ?_ fin
    have q := lc_a (it := iseq (var 4)) (vs := [10]) (j := 10) (elt := bin oxor (var 10) (un bint (bin oeq (var 8) (var 5)))) (e := [some poolD, some (nD L), some (nD kind), some (nD n), some (.lst (told.map nD)), some (nD other), o6, some (.lst (t.map lD)), some (nD k), o9, o10]) (B := 2) (xs := told.map nD) rfl (by rw [List.length_map, ht.1]; exact le_sz (by omega)) fun x hx => by
      obtain ⟨a, ha, rfl⟩ := List.mem_map.mp hx
      obtain ⟨b, hb, hx⟩ := xor_bit (ht.2 a ha) (decide (k = other))
      have hq := nat_eq k other
      have e1 : ((bin oxor (var 10) (un bint (bin oeq (var 8) (var 5)))) : EM) ((wipe [some poolD, some (nD L), some (nD kind), some (nD n), some (.lst (told.map nD)), some (nD other), o6, some (.lst (t.map lD)), some (nD k), o9, o10] [10]).set 10 (some (nD a))) = .ok (nD b) := by
        generalize nD a = A at *
        generalize nD k = K at *
        generalize nD other = OT at *
        simp only [wipe]
        simp [var, hq, hx]
      rw [e1]
      exact ⟨b, hb, rfl⟩
    rwa [List.length_map, ht.1] at q
  · refine app_a rfl hz (draw_row (hi := tst (cst (.bl true))) rfl (by omega) rfl hL fun x hx => ?_) fin
    exact bitc rfl
/-- a pair of tables as lists -/
def PairT (L M : Nat) (d : D) : Prop := ∃ (n : Nat) (nx os : List (List Nat)), d = .tup [.lst (nx.map lD), .lst (os.map lD)] ∧ 0 < n ∧ n ≤ M ∧ Tbl n L n nx ∧ Tbl n L 2 os
theorem any_ok {L : Nat} (hL : L ≤ 8) : Always (PairT L 9) (m_law_any [poolD, nD L]) := by
  unfold m_law_any
  rw [fn2]
  refine Always.done ?_
  unfold b__law_any
  refine asg_a (Q := fun d => ∃ kind : Nat, d = nD kind) ?_ ?_
  · exact pickc 3 rfl rfl rfl (by omega) (by omega) fun i hi => ⟨i, rfl⟩
  rintro _ ⟨kind, rfl⟩
  refine asg_a (Q := fun d => ∃ many : Nat, d = nD many ∧ 0 < many ∧ many ≤ 9) ?_ ?_
  · show Always _ (pickF false [.drw (.inl false), .int 9] >>= fun y => oadd (.int 1) y)
    refine pick_bi (by omega) (by omega) fun i hi => ?_
    rw [add1]
    exact ⟨1 + i, rfl, by omega, by omega⟩
  rintro _ ⟨many, rfl, m0, m9⟩
  refine seq_a (I := fun e => ∃ many : Nat, 0 < many ∧ many ≤ 9 ∧ e = [some poolD, some (nD L), some (nD kind), some (nD many), none, none, none, none, none, none, none]) ?_ ?_
  · refine ite_a (c := decide (kind = 0)) ?_ (fun _ => ?_) fun _ => ⟨_, rfl, many, m0, m9, rfl⟩
    · have := int0 kind
      generalize nD kind = K at *
      simp [var, this]
    · refine asg_1 (Q := fun d => ∃ many : Nat, d = nD many ∧ 0 < many ∧ many ≤ 9) ?_ ?_
      · show Always _ (pickF false [.drw (.inl false), .int 5] >>= fun y => oadd (.int 1) y)
        refine pick_bi (by omega) (by omega) fun i hi => ?_
        rw [add1]
        exact ⟨1 + i, rfl, by omega, by omega⟩
      · rintro _ ⟨many', rfl, h1, h2⟩
        exact ⟨_, rfl, many', h1, h2, rfl⟩
  rintro _ ⟨n, n0, n9, rfl⟩
  refine asg_a (Q := RowP L 2) (draw_row (hi := tst (cst (.bl true))) rfl (by omega) rfl hL fun x hx => bitc rfl) ?_
  rintro _ ⟨told, rfl, t1, t2⟩
  refine asg_a (Q := fun d => ∃ other : Nat, d = nD other) ?_ ?_
  · show Always _ (omul (.int 2) (nD n) >>= fun y => Res.ok [y] >>= fun ys => Res.ok (poolD :: ys) >>= pickF false)
    rw [mul2]
    exact pick_a (by omega) (by omega) fun i hi => ⟨i, rfl⟩
  rintro _ ⟨other, rfl⟩
  refine asg_a (Q := fun d => d = .lst []) rfl ?_
  rintro _ rfl
  refine asg_a (Q := fun d => d = .lst []) rfl ?_
  rintro _ rfl
  refine for_s (I := fun e => ∃ (nx os : List (List Nat)) (o8 : Option D), Tbl n L n nx ∧ Tbl n L 2 os ∧ e = [some poolD, some (nD L), some (nD kind), some (nD n), some (.lst (told.map nD)), some (nD other), some (.lst (nx.map lD)), some (.lst (os.map lD)), o8, none, none]) (irng_n rfl (by omega)) ?_ ?_
  · refine forR_a (fun k e => ∃ (nx os : List (List Nat)) (o8 : Option D), Tbl k L n nx ∧ Tbl k L 2 os ∧ e = [some poolD, some (nD L), some (nD kind), some (nD n), some (.lst (told.map nD)), some (nD other), some (.lst (nx.map lD)), some (.lst (os.map lD)), o8, none, none]) ⟨[], [], none, tbl_nil, tbl_nil, rfl⟩ ?_
    rintro k _ hk ⟨nx, os, o8, h1, h2, rfl⟩
    refine seq_a (any_nx hL hk (by omega) h1) ?_
    rintro _ ⟨nx', h1', rfl⟩
    refine (any_os hL hk (by omega) ⟨t1, t2⟩ h2).mono ?_
    rintro _ ⟨_, rfl, os', h2', rfl⟩
    exact ⟨_, rfl, nx', os', some (nD k), h1', h2', rfl⟩
  rintro _ ⟨nx, os, o8, h1, h2, rfl⟩
  exact ⟨n, nx, os, rfl, n0, n9, h1, h2⟩
end Py.U
namespace Py.U
open PySem
/-! ### a chain of states with a ring behind it -/
theorem set_a {P : Fl → Prop} {Q : D → Prop} {i : Nat} {j m : EM} {e : Env} {xs : List D} {d : D} (h : e[i]? = some (some (.lst xs))) (hm : m e = .ok d) (hj : Always Q (j e)) (k : ∀ x, Q x → ∃ n : Nat, x = nD n ∧ n < xs.length ∧ P (.next (e.set i (some (.lst (xs.set n d)))))) : Always P (setL i j m e) := by
  unfold setL
  rw [var_eq h, bind_ok]
  show Always P (m e >>= fun d => j e >>= fun k => match k with
    | .int z => match L2.ixN xs.length z with
      | some n => .ok (.next (e.set i (some (.lst (xs.set n d)))))
      | none => .stuck
    | _ => .stuck)
  rw [hm, bind_ok]
  refine hj.bind fun x hx => ?_
  obtain ⟨n, rfl, hn, hp⟩ := k x hx
  show Always P (match L2.ixN xs.length (n : Int) with
      | some n => .ok (.next (e.set i (some (.lst (xs.set n d)))))
      | none => .stuck)
  rw [ixN_nat hn]
  exact hp
theorem lc_const {it : IM} {j : Nat} {elt : EM} {e : Env} {n v : Nat} (hi : it e = .ok ((List.range n).map nD)) (hn : n ≤ 1000) (he : ∀ x : Nat, elt ((wipe e [j]).set j (some (nD x))) = .ok (nD v)) : lcE it [j] (gnm j) yes elt e = .ok (lD (List.replicate n v)) := by
  have q := lc_mapI (vs := [j]) (g := gnm j) (elt := elt) (k := nD) (h := fun _ => nD v) hi (by rw [List.length_range]; exact le_sz hn) fun y _ => ⟨_, rfl, he y⟩
  rw [q]
  unfold lD
  rw [List.map_replicate]
  congr 2
  exact List.ext_getElem (by simp) (by simp)
theorem rep_row {L v B : Nat} (h : v < B) : (List.replicate L v).length = L ∧ ∀ x ∈ List.replicate L v, x < B := ⟨by simp, fun x hx => by rw [(List.mem_replicate.mp hx).2]; exact h⟩
theorem set_row {r : List Nat} {L n v B : Nat} (h : r.length = L ∧ ∀ x ∈ r, x < B) (hv : v < B) : (r.set n v).length = L ∧ ∀ x ∈ r.set n v, x < B := ⟨by simp [h.1], fun x hx => by
  rcases List.mem_or_eq_of_mem_set hx with hx | rfl
  · exact h.2 x hx
  · exact hv⟩
theorem set_mapN (t : List Nat) (g v : Nat) : (t.map nD).set g (nD v) = (t.set g v).map nD := by rw [List.map_set]
abbrev cE (L m g t b o : Nat) (nx os : List (List Nat)) (o9 o10 o11 : Option D) : Env := [some poolD, some (nD L), some (nD m), some (nD g), some (nD t), some (nD b), some (nD o), some (.lst (nx.map lD)), some (.lst (os.map lD)), o9, o10, o11, none]
def chA : SM := (seq (asg (gnm 10) (lcE (irng1 (var 1)) [12] (gnm 12) yes (var 9)))
  (seq (setL 10 (call m_law_pick (argC (var 0) (argC (var 1) argN))) (bin oadd (var 9) (cst (.int 1))))
  (seq (app 7 (var 10))
  (app 8 (lcE (irng1 (var 1)) [12] (gnm 12) yes (call m_law_pick (argC (var 0) (argC (cst (.int 2)) argN))))))))
def chB : SM := (seq (asg (gnm 10) (lcE (irng1 (var 1)) [12] (gnm 12) yes (var 9)))
  (seq (setL 10 (var 4) (bin oadd (var 2) (bin omod (un bint (bin oadd (bin osub (var 9) (var 2)) (cst (.int 1)))) (var 3))))
  (seq (app 7 (var 10))
  (seq (asg (gnm 11) (lcE (irng1 (var 1)) [12] (gnm 12) yes (call m_law_pick (argC (var 0) (argC (cst (.int 2)) argN)))))
  (seq (setL 11 (var 4) (bin oxor (var 5) (un bint (bin oeq (var 9) (var 6)))))
  (app 8 (var 11)))))))
section
variable {L m g t b o : Nat} (h0 : 0 < L) (hL : L ≤ 8) (hm : m ≤ 40) (g0 : 0 < g) (hg : g ≤ 3)
include h0 hL hm g0 hg
theorem ch_a {k : Nat} {nx os : List (List Nat)} (hk : k < m) (h1 : Tbl k L (m + g) nx) (h2 : Tbl k L 2 os) (o9 o10 o11 : Option D) :
    Always (NX fun e => ∃ nx' os' o9 o10 o11, Tbl (k + 1) L (m + g) nx' ∧ Tbl (k + 1) L 2 os' ∧ e = cE L m g t b o nx' os' o9 o10 o11) (forB (gnm 9) chA (nD k) (cE L m g t b o nx os o9 o10 o11)) := by
  show Always _ (chA (cE L m g t b o nx os (some (nD k)) o10 o11))
  unfold chA
  refine seq_a (I := fun e => e = cE L m g t b o nx os (some (nD k)) (some (lD (List.replicate L k))) o11) ?_ ?_
  · refine asg_1 (Q := fun d => d = lD (List.replicate L k)) ?_ ?_
    · rw [lc_const (n := L) (v := k) (irng_n rfl (by omega)) (by omega) fun x => rfl]
      rfl
    · rintro _ rfl
      exact ⟨_, rfl, rfl⟩
  rintro _ rfl
  refine seq_a (I := fun e => ∃ r : List Nat, (r.length = L ∧ ∀ x ∈ r, x < m + g) ∧ e = cE L m g t b o nx os (some (nD k)) (some (lD r)) o11) ?_ ?_
  · refine set_a (xs := (List.replicate L k).map nD) (d := nD (k + 1)) rfl (addk1 k) (pickc (Q := fun d => ∃ a : Nat, a < L ∧ d = nD a) L rfl rfl rfl (by omega) (by omega) fun i hi => ⟨i, hi, rfl⟩) ?_
    rintro _ ⟨a, ha, rfl⟩
    refine ⟨a, rfl, by simpa using ha, _, rfl, (List.replicate L k).set a (k + 1), set_row (rep_row (by omega)) (by omega), ?_⟩
    rw [set_mapN]
    rfl
  rintro _ ⟨r, hr, rfl⟩
  refine seq_a (I := fun e => ∃ nx', Tbl (k + 1) L (m + g) nx' ∧ e = cE L m g t b o nx' os (some (nD k)) (some (lD r)) o11) ?_ ?_
  · refine app_a (Q := fun d => d = lD r) (xs := nx.map lD) rfl (tsz h1 (by omega)) rfl ?_
    rintro _ rfl
    exact ⟨_, rfl, nx ++ [r], h1.snoc hr.1 hr.2, by simp only [cE, List.map_append]; rfl⟩
  rintro _ ⟨nx', h1', rfl⟩
  refine app_a (xs := os.map lD) rfl (tsz h2 (by omega)) (draw_row (hi := tst (cst (.bl true))) (B := 2) rfl (by omega) rfl hL fun x hx => bitc rfl) ?_
  rintro _ ⟨r2, rfl, q1, q2⟩
  exact ⟨_, rfl, nx', os ++ [r2], _, _, _, h1', h2.snoc q1 q2, by simp only [cE, List.map_append]; rfl⟩
theorem ch_b (ht : t < L) (hb : b < 2) {k : Nat} {nx os : List (List Nat)} (hk : m ≤ k) (hk2 : k < m + g) (h1 : Tbl k L (m + g) nx) (h2 : Tbl k L 2 os) (o9 o10 o11 : Option D) :
    Always (NX fun e => ∃ nx' os' o9 o10 o11, Tbl (k + 1) L (m + g) nx' ∧ Tbl (k + 1) L 2 os' ∧ e = cE L m g t b o nx' os' o9 o10 o11) (forB (gnm 9) chB (nD k) (cE L m g t b o nx os o9 o10 o11)) := by
  show Always _ (chB (cE L m g t b o nx os (some (nD k)) o10 o11))
  have hs := nsub (a := k) (b := m) hk
  have ha : omod (nD (k - m + 1)) (nD g) = .ok (nD ((k - m + 1) % g)) := by
    unfold nD
    rw [omod_ii (by omega)]
    simp
  have hlt : (k - m + 1) % g < g := Nat.mod_lt _ g0
  obtain ⟨bb, hbb, hx⟩ := xor_bit hb (decide (k = o))
  unfold chB
  refine seq_a (I := fun e => e = cE L m g t b o nx os (some (nD k)) (some (lD (List.replicate L k))) o11) ?_ ?_
  · refine asg_1 (Q := fun d => d = lD (List.replicate L k)) ?_ ?_
    · rw [lc_const (n := L) (v := k) (irng_n rfl (by omega)) (by omega) fun x => rfl]
      rfl
    · rintro _ rfl
      exact ⟨_, rfl, rfl⟩
  rintro _ rfl
  refine seq_a (I := fun e => ∃ r : List Nat, (r.length = L ∧ ∀ x ∈ r, x < m + g) ∧ e = cE L m g t b o nx os (some (nD k)) (some (lD r)) o11) ?_ ?_
  · refine set_a (Q := fun d => d = nD t) (xs := (List.replicate L k).map nD) (d := nD (m + (k - m + 1) % g)) rfl ?_ rfl ?_
    · show (Res.ok (nD m) >>= fun a => (((osub (nD k) (nD m) >>= fun x => oadd x (.int 1)) >>= bint) >>= fun x => omod x (nD g)) >>= fun y => oadd a y) = _
      rw [hs, bind_ok, bind_ok, addk1]
      show (omod (nD (k - m + 1)) (nD g) >>= fun y => oadd (nD m) y) = _
      rw [ha, bind_ok, nadd]
    · rintro _ rfl
      refine ⟨t, rfl, by simpa using ht, _, rfl, (List.replicate L k).set t (m + (k - m + 1) % g), set_row (rep_row (by omega)) (by omega), ?_⟩
      rw [set_mapN]
      rfl
  rintro _ ⟨r, hr, rfl⟩
  refine seq_a (I := fun e => ∃ nx', Tbl (k + 1) L (m + g) nx' ∧ e = cE L m g t b o nx' os (some (nD k)) (some (lD r)) o11) ?_ ?_
  · refine app_a (Q := fun d => d = lD r) (xs := nx.map lD) rfl (tsz h1 (by omega)) rfl ?_
    rintro _ rfl
    exact ⟨_, rfl, nx ++ [r], h1.snoc hr.1 hr.2, by simp only [cE, List.map_append]; rfl⟩
  rintro _ ⟨nx', h1', rfl⟩
  refine seq_a (I := fun e => ∃ r2 : List Nat, (r2.length = L ∧ ∀ x ∈ r2, x < 2) ∧ e = cE L m g t b o nx' os (some (nD k)) (some (lD r)) (some (lD r2))) ?_ ?_
  · refine asg_1 (draw_row (hi := tst (cst (.bl true))) (B := 2) (L := L) rfl (by omega) rfl hL fun x hx => bitc rfl) ?_
    rintro _ ⟨r2, rfl, q1, q2⟩
    exact ⟨_, rfl, r2, ⟨q1, q2⟩, rfl⟩
  rintro _ ⟨r2, hr2, rfl⟩
  refine seq_a (I := fun e => ∃ r2 : List Nat, (r2.length = L ∧ ∀ x ∈ r2, x < 2) ∧ e = cE L m g t b o nx' os (some (nD k)) (some (lD r)) (some (lD r2))) ?_ ?_
  · refine set_a (Q := fun d => d = nD t) (xs := r2.map nD) (d := nD bb) rfl ?_ rfl ?_
    · have hq := nat_eq k o
      show (Res.ok (nD b) >>= fun a => ((oeq (nD k) (nD o)) >>= bint) >>= fun y => oxor a y) = _
      rw [hq, bind_ok, bind_ok, bint_b, bind_ok, hx]
    · rintro _ rfl
      refine ⟨t, rfl, by simpa [hr2.1] using ht, _, rfl, r2.set t bb, set_row hr2 hbb, ?_⟩
      rw [set_mapN]
      rfl
  rintro _ ⟨r2, hr2, rfl⟩
  refine app_a (Q := fun d => d = lD r2) (xs := os.map lD) rfl (tsz h2 (by omega)) rfl ?_
  rintro _ rfl
  exact ⟨_, rfl, nx', os ++ [r2], _, _, _, h1', h2.snoc hr2.1 hr2.2, by simp only [cE, List.map_append]; rfl⟩
end
theorem rng2_n {a b : EM} {e : Env} {m n : Nat} (ha : a e = .ok (nD m)) (hb : b e = .ok (nD n)) (h : m ≤ n) (hn : n ≤ 1000) : irng2 a b e = .ok ((List.range (n - m)).map fun i => nD (m + i)) := by
  unfold irng2
  rw [ha, bind_ok, hb, bind_ok]
  show (if ((m : Nat) : Int).natAbs < B62 ∧ ((n : Nat) : Int).natAbs < B62 then Res.ok (rngL (m : Int) (n : Int)) else .stuck) = _
  rw [if_pos ⟨Nat.lt_of_le_of_lt (show ((m : Nat) : Int).natAbs ≤ 1000 by omega) (by decide), Nat.lt_of_le_of_lt (show ((n : Nat) : Int).natAbs ≤ 1000 by omega) (by decide)⟩]
  unfold rngL
  rw [show ((n : Int) - (m : Int)).toNat = n - m by omega]
  congr 1
theorem forM_a {b : D → Env → Res Fl} (I : Nat → Env → Prop) {m n : Nat} {e : Env} (h0 : I m e) (hb : ∀ i e, m ≤ i → i < m + n → I i e → Always (NX (I (i + 1))) (b (nD i) e)) : Always (NX (I (m + n))) (forL b ((List.range n).map fun i => nD (m + i)) e) := by
  have q := for_a (b := b) (xs := (List.range n).map fun i => nD (m + i)) (e := e) I m h0 fun i e' hi hI => by
    have hi' : i < n := by simpa using hi
    have := hb (m + i) e' (by omega) (by omega) hI
    simpa using this
  rwa [List.length_map, List.length_range] at q
theorem ite_asg {Q : D → Prop} {P : Fl → Prop} {t : TM} {i : Nat} {m : EM} {r : SM} {e : Env} {d0 : D} (ht : Always (fun _ => True) (t e)) (hm : Always Q (m e)) (h0 : e.set i (some d0) = e) (hd : Q d0) (k : ∀ d, Q d → Always P (r (e.set i (some d)))) : Always P (seq (Py.ite t (asg (gnm i) m) skip) r e) := by
  refine seq_a (I := fun e' => ∃ d, Q d ∧ e' = e.set i (some d)) (ite_any' ht ?_ ?_) ?_
  · exact asg_1 hm fun d hd => ⟨_, rfl, d, hd, rfl⟩
  · exact ⟨_, rfl, d0, hd, h0.symm⟩
  · rintro _ ⟨d, hd, rfl⟩
    exact k d hd
where
  ite_any' {P : Fl → Prop} {t : TM} {a b : SM} {e : Env} (ht : Always (fun _ => True) (t e)) (h1 : Always P (a e)) (h2 : Always P (b e)) : Always P (Py.ite t a b e) := by
    rw [ite_eq]
    refine ht.bind fun c _ => ?_
    cases c
    · exact h2
    · exact h1
/-- pick(n) == 0 -/
theorem pick0 {e : Env} {i : Nat} (n : Nat) (h : e[i]? = some (some poolD)) (h0 : 0 < n) (h1 : n < 1000000) : Always (fun _ => True) (tst (bin oeq (call m_law_pick (argC (var i) (argC (cst (nD n)) argN))) (cst (.int 0))) e) := by
  rw [tst_eq, bin_eq]
  refine ((pickc (Q := fun d => ∃ k : Nat, d = nD k) n h rfl rfl h0 h1 fun k _ => ⟨k, rfl⟩).bind (Q := fun d => ∃ k : Nat, d = nD k) ?_).bind (Q := fun d => ∃ c : Bool, d = .bl c) ?_
  · rintro _ ⟨k, rfl⟩
    rw [cst_eq, bind_ok, int0]
    exact ⟨_, rfl⟩
  · rintro _ ⟨c, rfl⟩
    trivial
theorem chain_ok {L : Nat} (h0 : 0 < L) (hL : L ≤ 8) : Always (PairT L 40) (m_law_chain [poolD, nD L]) := by
  unfold m_law_chain
  rw [fn2]
  refine Always.done ?_
  unfold b__law_chain
  refine asg_a (Q := fun d => ∃ m : Nat, d = nD m ∧ m ≤ 37) (pickc 6 rfl rfl rfl (by omega) (by omega) fun i hi => ⟨i, rfl, by omega⟩) ?_
  rintro _ ⟨m1, rfl, hm1⟩
  refine ite_asg (Q := fun d => ∃ m : Nat, d = nD m ∧ m ≤ 37) (d0 := nD m1) (pick0 3 rfl (by omega) (by omega)) (pickc 38 rfl rfl rfl (by omega) (by omega) fun i hi => ⟨i, rfl, by omega⟩) rfl ⟨m1, rfl, hm1⟩ ?_
  rintro _ ⟨m, rfl, hm⟩
  refine asg_a (Q := fun d => ∃ g : Nat, d = nD g ∧ 0 < g ∧ g ≤ 3) ?_ ?_
  · show Always _ (pickF false [.drw (.inl false), .int 3] >>= fun y => oadd (.int 1) y)
    refine pick_bi (by omega) (by omega) fun i hi => ?_
    rw [add1]
    exact ⟨1 + i, rfl, by omega, by omega⟩
  rintro _ ⟨g, rfl, g0, hg⟩
  refine asg_a (Q := fun d => ∃ t : Nat, d = nD t ∧ t < L) (pickc L rfl rfl rfl h0 (by omega) fun i hi => ⟨i, rfl, hi⟩) ?_
  rintro _ ⟨t, rfl, ht⟩
  refine asg_a (Q := fun d => ∃ b : Nat, d = nD b ∧ b < 2) (pickc 2 rfl rfl rfl (by omega) (by omega) fun i hi => ⟨i, rfl, hi⟩) ?_
  rintro _ ⟨b, rfl, hb⟩
  refine asg_a (Q := fun d => ∃ o : Nat, d = nD o) ?_ ?_
  · show Always _ (((omul (.int 2) (nD g) >>= fun y => Res.ok [y] >>= fun ys => Res.ok (poolD :: ys) >>= pickF false)) >>= fun y => oadd (nD m) y)
    rw [mul2]
    refine Always.bind (Q := fun d => ∃ o : Nat, d = nD o) (pick_a (by omega) (by omega) fun i hi => ⟨i, rfl⟩) ?_
    rintro _ ⟨o, rfl⟩
    rw [nadd]
    exact ⟨_, rfl⟩
  rintro _ ⟨o, rfl⟩
  refine asg_a (Q := fun d => d = .lst []) rfl ?_
  rintro _ rfl
  refine asg_a (Q := fun d => d = .lst []) rfl ?_
  rintro _ rfl
  refine for_s (I := fun e => ∃ nx os o9 o10 o11, Tbl m L (m + g) nx ∧ Tbl m L 2 os ∧ e = cE L m g t b o nx os o9 o10 o11) (irng_n rfl (by omega)) ?_ ?_
  · refine forR_a (fun k e => ∃ nx os o9 o10 o11, Tbl k L (m + g) nx ∧ Tbl k L 2 os ∧ e = cE L m g t b o nx os o9 o10 o11) ⟨[], [], none, none, none, tbl_nil, tbl_nil, rfl⟩ ?_
    rintro k _ hk ⟨nx, os, o9, o10, o11, h1, h2, rfl⟩
    exact ch_a h0 hL (by omega) g0 hg hk h1 h2 o9 o10 o11
  rintro _ ⟨nx, os, o9, o10, o11, h1, h2, rfl⟩
  refine for_s (I := fun e => ∃ nx os o9 o10 o11, Tbl (m + g) L (m + g) nx ∧ Tbl (m + g) L 2 os ∧ e = cE L m g t b o nx os o9 o10 o11) (rng2_n (m := m) (n := m + g) rfl (nadd m g) (by omega) (by omega)) ?_ ?_
  · rw [show m + g - m = g by omega]
    refine forM_a (m := m) (fun k e => ∃ nx os o9 o10 o11, Tbl k L (m + g) nx ∧ Tbl k L 2 os ∧ e = cE L m g t b o nx os o9 o10 o11) ⟨nx, os, o9, o10, o11, h1, h2, rfl⟩ ?_
    rintro k _ hk hk2 ⟨nx, os, o9, o10, o11, h1, h2, rfl⟩
    exact ch_b h0 hL (by omega) g0 hg ht hb hk hk2 h1 h2 o9 o10 o11
  rintro _ ⟨nx, os, o9, o10, o11, h1, h2, rfl⟩
  exact ⟨m + g, nx, os, rfl, by omega, by omega, h1, h2⟩
end Py.U
namespace Py.U
open PySem
/-! ### the machine drawn -/
theorem PairT.mono {L M M' : Nat} {d : D} (h : PairT L M d) (hm : M ≤ M') : PairT L M' d := by
  obtain ⟨n, nx, os, h1, h2, h3, h4, h5⟩ := h
  exact ⟨n, nx, os, h1, h2, by omega, h4, h5⟩
abbrev mE (L : Nat) (nx os : List (List Nat)) (o4 : Option D) : Env := [some poolD, some (nD L), some (.lst (nx.map lD)), some (.lst (os.map lD)), o4, none, none, none]
theorem pair_asg {f : List D → Res D} {L : Nat} (h : Always (PairT L 40) (f [poolD, nD L])) : Always (NX fun e => ∃ (n : Nat) (nx os : List (List Nat)), 0 < n ∧ n ≤ 40 ∧ Tbl n L n nx ∧ Tbl n L 2 os ∧ e = mE L nx os none) (asg (gtup [(gnm 2), (gnm 3)]) (callF f (argC (var 0) (argC (var 1) argN))) [some poolD, some (nD L), none, none, none, none, none, none]) := by
  rw [asg_eq]
  refine Always.bind (Q := PairT L 40) ?_ ?_
  · show Always _ (f [poolD, nD L] >>= noNon)
    refine h.bind ?_
    rintro _ ⟨n, nx, os, rfl, h1, h2, h3, h4⟩
    exact ⟨n, nx, os, rfl, h1, h2, h3, h4⟩
  · rintro _ ⟨n, nx, os, rfl, h1, h2, h3, h4⟩
    exact ⟨_, rfl, n, nx, os, h1, h2, h3, h4, rfl⟩
theorem lc_tup {it : IM} {j : Nat} {e : Env} {nx : List (List Nat)} (hi : it e = .ok (nx.map lD)) (hn : nx.length ≤ 1000) (hj : j < (wipe e [j]).length) : lcE it [j] (gnm j) yes (un btuple (var j)) e = .ok (.lst (nx.map rD)) := by
  refine lc_mapI (k := lD) (h := rD) hi (le_sz hn) fun r _ => ⟨_, rfl, ?_⟩
  rw [un_eq, var_eq (d := lD r) (List.getElem?_set_self hj)]
  rfl
def MachT (L : Nat) (d : D) : Prop := ∃ (n : Nat) (nx os : List (List Nat)), d = .tup [.lst (nx.map rD), .lst (os.map rD)] ∧ 0 < n ∧ n ≤ 40 ∧ Tbl n L n nx ∧ Tbl n L 2 os
def mcX : SM := (seq (app 2 (lcE (irng1 (var 1)) [7] (gnm 7) yes (bin oadd (var 4) (cst (.int 1)))))
  (seq (app 2 (lcE (irng1 (var 1)) [7] (gnm 7) yes (var 4)))
  (seq (app 2 (lcE (irng1 (var 1)) [7] (gnm 7) yes (call m_law_pick (argC (var 0) (argC (bin oadd (var 4) (cst (.int 3))) argN)))))
  (seq (app 3 (lcE (irng1 (var 1)) [7] (gnm 7) yes (cst (.int 0))))
  (seq (app 3 (lcE (irng1 (var 1)) [7] (gnm 7) yes (cst (.int 1))))
  (app 3 (lcE (irng1 (var 1)) [7] (gnm 7) yes (call m_law_pick (argC (var 0) (argC (cst (.int 2)) argN))))))))))
theorem mc_x {L n : Nat} {nx os : List (List Nat)} (hL : L ≤ 8) (hn : n ≤ 37) (h1 : Tbl n L n nx) (h2 : Tbl n L 2 os) : Always (NX fun e => ∃ (nx os : List (List Nat)), Tbl (n + 3) L (n + 3) nx ∧ Tbl (n + 3) L 2 os ∧ e = mE L nx os (some (nD n))) (mcX (mE L nx os (some (nD n)))) := by
  have rows : ∀ (nx os : List (List Nat)) (v : Nat) (m : EM), (∀ x : Nat, m ((wipe (mE L nx os (some (nD n))) [7]).set 7 (some (nD x))) = .ok (nD v)) → lcE (irng1 (var 1)) [7] (gnm 7) yes m (mE L nx os (some (nD n))) = .ok (lD (List.replicate L v)) := fun nx os v m hm => lc_const (n := L) (v := v) (irng_n rfl (by omega)) (by omega) hm
  have stepN : ∀ (k v : Nat) (nx os : List (List Nat)) (m : EM), k ≤ 100 → Tbl k L (n + 3) nx → v < n + 3 → (∀ x : Nat, m ((wipe (mE L nx os (some (nD n))) [7]).set 7 (some (nD x))) = .ok (nD v)) → Always (NX fun e => ∃ nx', Tbl (k + 1) L (n + 3) nx' ∧ e = mE L nx' os (some (nD n))) (app 2 (lcE (irng1 (var 1)) [7] (gnm 7) yes m) (mE L nx os (some (nD n)))) := fun k v nx os m hk ht hv hm => by
    refine app_a (Q := fun d => d = lD (List.replicate L v)) (xs := nx.map lD) rfl (tsz ht (by omega)) (by rw [rows nx os v m hm]; rfl) ?_
    rintro _ rfl
    exact ⟨_, rfl, nx ++ [List.replicate L v], ht.snoc (rep_row hv).1 (rep_row hv).2, by simp only [mE, List.map_append]; rfl⟩
  have stepO : ∀ (k v : Nat) (nx os : List (List Nat)) (m : EM), k ≤ 100 → Tbl k L 2 os → v < 2 → (∀ x : Nat, m ((wipe (mE L nx os (some (nD n))) [7]).set 7 (some (nD x))) = .ok (nD v)) → Always (NX fun e => ∃ os', Tbl (k + 1) L 2 os' ∧ e = mE L nx os' (some (nD n))) (app 3 (lcE (irng1 (var 1)) [7] (gnm 7) yes m) (mE L nx os (some (nD n)))) := fun k v nx os m hk ht hv hm => by
    refine app_a (Q := fun d => d = lD (List.replicate L v)) (xs := os.map lD) rfl (tsz ht (by omega)) (by rw [rows nx os v m hm]; rfl) ?_
    rintro _ rfl
    exact ⟨_, rfl, os ++ [List.replicate L v], ht.snoc (rep_row hv).1 (rep_row hv).2, by simp only [mE, List.map_append]; rfl⟩
  unfold mcX
  refine seq_a (stepN n (n + 1) nx os _ (by omega) (h1.up (by omega)) (by omega) fun x => addk1 n) ?_
  rintro _ ⟨nx1, t1, rfl⟩
  refine seq_a (stepN (n + 1) n nx1 os _ (by omega) t1 (by omega) fun x => rfl) ?_
  rintro _ ⟨nx2, t2, rfl⟩
  refine seq_a (I := fun e => ∃ nx', Tbl (n + 3) L (n + 3) nx' ∧ e = mE L nx' os (some (nD n))) ?_ ?_
  · refine app_a (xs := nx2.map lD) rfl (tsz t2 (by omega)) (draw_row (hi := tst (cst (.bl true))) (B := n + 3) rfl (by omega) rfl hL fun x hx => ?_) ?_
    · exact pickc (n + 3) rfl (d := nD (n + 3)) (nadd n 3) rfl (by omega) (by omega) fun i hi => ⟨i, hi, rfl⟩
    · rintro _ ⟨r, rfl, q1, q2⟩
      exact ⟨_, rfl, nx2 ++ [r], t2.snoc q1 q2, by simp only [mE, List.map_append]; rfl⟩
  rintro _ ⟨nx3, t3, rfl⟩
  refine seq_a (stepO n 0 nx3 os _ (by omega) h2 (by omega) fun x => rfl) ?_
  rintro _ ⟨os1, u1, rfl⟩
  refine seq_a (stepO (n + 1) 1 nx3 os1 _ (by omega) u1 (by omega) fun x => rfl) ?_
  rintro _ ⟨os2, u2, rfl⟩
  refine app_a (xs := os2.map lD) rfl (tsz u2 (by omega)) (draw_row (hi := tst (cst (.bl true))) (B := 2) rfl (by omega) rfl hL fun x hx => bitc rfl) ?_
  rintro _ ⟨r, rfl, q1, q2⟩
  exact ⟨_, rfl, nx3, os2 ++ [r], t3, u2.snoc q1 q2, by simp only [mE, List.map_append]; rfl⟩
theorem andT_any {a b : TM} {e : Env} {c : Bool} (h1 : Always (fun _ => True) (a e)) (h2 : b e = .ok c) : Always (fun x => x = true → c = true) (andT a b e) := by
  rw [andT_eq]
  refine h1.bind fun x _ => ?_
  cases x
  · exact fun z => nomatch z
  · rw [if_pos rfl, h2]
    exact fun z => z
theorem ole_n (a b : Nat) : ole (nD a) (nD b) = .ok (.bl (decide (a ≤ b))) := by
  show Res.ok (Py.D.bl (decide ((a : Int) ≤ (b : Int)))) = _
  congr 2
  exact decide_eq_decide.mpr (by omega)
theorem mach_ok {L : Nat} (h0 : 0 < L) (hL : L ≤ 8) : Always (MachT L) (m_law_machine [poolD, nD L]) := by
  unfold m_law_machine
  rw [fn2]
  refine Always.done ?_
  unfold b__law_machine
  refine seq_a (I := fun e => ∃ (n : Nat) (nx os : List (List Nat)), 0 < n ∧ n ≤ 40 ∧ Tbl n L n nx ∧ Tbl n L 2 os ∧ e = mE L nx os none) ?_ ?_
  · rw [ite_eq]
    refine (pick0 2 rfl (by omega) (by omega)).bind fun c _ => ?_
    cases c
    · exact pair_asg (chain_ok h0 hL)
    · exact pair_asg ((any_ok hL).mono fun d h => h.mono (by omega))
  rintro _ ⟨n, nx, os, n0, n40, h1, h2, rfl⟩
  have e4 : un blen (var 2) (mE L nx os none) = .ok (nD n) := by
    show blen (.lst (nx.map lD)) = _
    rw [blen_l, List.length_map, h1.len]
    rfl
  refine asg_a (Q := fun d => d = nD n) (by rw [e4]; rfl) ?_
  rintro _ rfl
  refine seq_a (I := fun e => ∃ (n' : Nat) (nx os : List (List Nat)), 0 < n' ∧ n' ≤ 40 ∧ Tbl n' L n' nx ∧ Tbl n' L 2 os ∧ e = mE L nx os (some (nD n))) ?_ ?_
  · rw [ite_eq]
    have hq := andT_any (a := tst (bin oeq (call m_law_pick (argC (var 0) (argC (cst (.int 3)) argN))) (cst (.int 0)))) (b := tst (bin ole (var 4) (cst (.int 37)))) (e := mE L nx os (some (nD n))) (c := decide (n ≤ 37)) (pick0 3 rfl (by omega) (by omega)) (by
      have := ole_n n 37
      show (ole (nD n) (nD 37)) >>= truthy = _
      rw [this]
      rfl)
    refine Always.bind hq fun x hx => ?_
    cases x
    · exact ⟨_, rfl, n, nx, os, n0, n40, h1, h2, rfl⟩
    · have hn : n ≤ 37 := of_decide_eq_true (hx rfl)
      refine (mc_x hL hn h1 h2).mono ?_
      rintro _ ⟨_, rfl, nx', os', t1, t2, rfl⟩
      exact ⟨_, rfl, n + 3, nx', os', by omega, by omega, t1, t2, rfl⟩
  rintro _ ⟨n', nx, os, n0', n40', h1, h2, rfl⟩
  have a1 := lc_tup (it := iseq (var 2)) (j := 5) (e := mE L nx os (some (nD n))) (nx := nx) rfl (by rw [h1.len]; omega) (by show 5 < 8; decide)
  have a2 := lc_tup (it := iseq (var 3)) (j := 6) (e := mE L nx os (some (nD n))) (nx := os) rfl (by rw [h2.len]; omega) (by show 6 < 8; decide)
  rw [ret_eq, tupE_eq, argC_eq, a1, bind_ok, argC_eq, a2]
  exact ⟨n', nx, os, rfl, n0', n40', h1, h2⟩
end Py.U
/-! States apart are apart by a word shorter than the number of states. -/
namespace Py.U
section
variable {S L : Nat} {nx os : List (List Nat)}
def Eqw (L : Nat) (nx os : List (List Nat)) (j s s' : Nat) : Prop := ∀ w : List Nat, w.length ≤ j → (∀ l ∈ w, l < L) → wr nx os s w = wr nx os s' w
theorem Eqw.mono {j j' s s' : Nat} (h : Eqw L nx os j s s') (hj : j' ≤ j) : Eqw L nx os j' s s' := fun w hw hl => h w (by omega) hl
theorem Eqw.goal {j s s' l : Nat} (h : Eqw L nx os (j + 1) s s') (hl : l < L) : Eqw L nx os j (at1 (rw1 nx s) l) (at1 (rw1 nx s') l) := fun w hw hw2 => by
  have q := h (l :: w) (by simp; omega) (fun x hx => by
    rcases List.mem_cons.mp hx with rfl | hx
    · exact hl
    · exact hw2 x hx)
  unfold wr at q
  exact (List.cons.inj q).2
theorem Eqw.bit {j s s' l : Nat} (h : Eqw L nx os (j + 1) s s') (hl : l < L) : at1 (rw1 os s) l = at1 (rw1 os s') l := by
  have q := h [l] (by simp) (fun x hx => by rw [List.mem_singleton.mp hx]; exact hl)
  unfold wr at q
  exact (List.cons.inj q).1
theorem row_eq {r r' : List Nat} (h1 : r.length = L) (h2 : r'.length = L) (h : ∀ l, l < L → at1 r l = at1 r' l) : r = r' := by
  have := row_ext (c := id) h1 h2 h
  simpa using this
theorem cls_words (h : Tbl S L S nx) (h0 : 0 < S) : ∀ (k j : Nat) (c : List Nat), Met S c → (∀ s s', s < S → s' < S → Eqw L nx os j s s' → at1 c s = at1 c s') →
    ∃ j', j' + mxN c ≤ j + mxN (clsL nx c k) ∧ ∀ s s', s < S → s' < S → Eqw L nx os j' s s' → at1 (clsL nx c k) s = at1 (clsL nx c k) s'
  | 0, j, c, hm, hc => ⟨j, Nat.le_refl _, hc⟩
  | k + 1, j, c, hm, hc => by
    rw [clsL]
    by_cases q : mxN (stepC nx c) = mxN c
    · rw [if_pos q]
      exact ⟨j, Nat.le_refl _, hc⟩
    · rw [if_neg q]
      have hlen := h.len
      obtain ⟨g1, g2⟩ := step_mx (nx := nx) (c := c) (by rw [hlen]; exact hm) (by omega)
      have hm2 := met_step (nx := nx) (c := c)
      rw [hlen] at hm2
      obtain ⟨j', e1, e2⟩ := cls_words h h0 k (j + 1) (stepC nx c) hm2 fun s s' hs hs' w => key_same h hs hs' (hc s s' hs hs' (w.mono (by omega))) fun l hl => hc _ _ ((h.at hs).2.2 _ (at1_mem (by have := (h.at hs).2.1; omega))) ((h.at hs').2.2 _ (at1_mem (by have := (h.at hs').2.1; omega))) (w.goal hl)
      exact ⟨j', by omega, e2⟩
theorem cls_wr {B : Nat} (h : Tbl S L S nx) (ho : Tbl S L B os) (h0 : 0 < S) : ∀ (w : List Nat), (∀ l ∈ w, l < L) → ∀ s s', s < S → s' < S → at1 (clsM nx os) s = at1 (clsM nx os) s' → wr nx os s w = wr nx os s' w
  | [], _, _, _, _, _, _ => rfl
  | l :: w, hl, s, s', hs, hs', e => by
    have hl0 := hl l List.mem_cons_self
    have er : RefO S os (clsM nx os) := refO_cls h _ _ (refO_numb ho.len)
    unfold wr
    rw [er _ _ hs hs' e, cls_wr h ho h0 w (fun x hx => hl x (List.mem_cons_of_mem _ hx)) _ _ ((h.at hs).2.2 _ (at1_mem (by have := (h.at hs).2.1; omega))) ((h.at hs').2.2 _ (at1_mem (by have := (h.at hs').2.1; omega))) (cls_goal h ho.len h0 hs hs' hl0 e)]
end
end Py.U
/-! A search by levels over pairs of states, with the ways to them. No program in sight. -/
namespace Py.U
abbrev P2 := Nat × Nat
/-- a found pair, the way to it, the reading that leads to it -/
abbrev Nd := P2 × Option (P2 × Nat) × List Nat
def addG (p : P2) (r : List Nat) (f : List Nd) (g : Nat × P2) : List Nd := if g.2 ∈ f.map (·.1) then f else f ++ [(g.2, some (p, g.1), r ++ [g.1])]
def stepG (f : List Nd) (n : Nd) (gs : List (Nat × P2)) : List Nd := gs.foldl (addG n.1 n.2.2) f
theorem stepG_char (n : Nd) : ∀ (gs : List (Nat × P2)) (f : List Nd), (f.map (·.1)).Nodup → ∃ r, stepG f n gs = f ++ r ∧ ((f ++ r).map (·.1)).Nodup ∧ (∀ x ∈ r, ∃ l, (l, x.1) ∈ gs ∧ x = (x.1, some (n.1, l), n.2.2 ++ [l])) ∧ ∀ g ∈ gs, g.2 ∈ (f ++ r).map (·.1)
  | [], f, h => ⟨[], by simp [stepG], by simpa using h, by simp, by simp⟩
  | g :: gs, f, h => by
    unfold stepG
    rw [List.foldl_cons]
    by_cases c : g.2 ∈ f.map (·.1)
    · have e : addG n.1 n.2.2 f g = f := if_pos c
      rw [e]
      obtain ⟨r, h1, h2, h3, h4⟩ := stepG_char n gs f h
      refine ⟨r, h1, h2, fun x hx => ?_, fun y hy => ?_⟩
      · obtain ⟨l, a, b⟩ := h3 x hx
        exact ⟨l, List.mem_cons_of_mem _ a, b⟩
      · rcases List.mem_cons.mp hy with rfl | hy
        · rw [List.map_append]
          exact List.mem_append_left _ c
        · exact h4 y hy
    · have e : addG n.1 n.2.2 f g = f ++ [(g.2, some (n.1, g.1), n.2.2 ++ [g.1])] := if_neg c
      rw [e]
      have hn : ((f ++ [(g.2, some (n.1, g.1), n.2.2 ++ [g.1])]).map (·.1)).Nodup := by
        rw [List.map_append, List.nodup_append]
        refine ⟨h, by simp, fun a ha b hb => ?_⟩
        rw [List.map_singleton] at hb
        rw [List.mem_singleton.mp hb]
        rintro rfl
        exact c ha
      obtain ⟨r, h1, h2, h3, h4⟩ := stepG_char n gs _ hn
      refine ⟨(g.2, some (n.1, g.1), n.2.2 ++ [g.1]) :: r, ?_, ?_, fun x hx => ?_, fun y hy => ?_⟩
      · refine h1.trans ?_
        rw [List.append_assoc]
        rfl
      · rw [List.append_assoc] at h2
        exact h2
      · rcases List.mem_cons.mp hx with rfl | hx
        · exact ⟨g.1, List.mem_cons_self, rfl⟩
        · obtain ⟨l, a, b⟩ := h3 x hx
          exact ⟨l, List.mem_cons_of_mem _ a, b⟩
      · rcases List.mem_cons.mp hy with rfl | hy
        · simp
        · have := h4 y hy
          rw [List.append_assoc] at this
          exact this
structure Wf (gs : P2 → List (Nat × P2)) (b : P2) (f : List Nd) (a : Nat) : Prop where
  nd : (f.map (·.1)).Nodup
  hd : f[0]? = some (b, none, [])
  par : ∀ (j : Nat) (n : Nd), f[j]? = some n → j = 0 ∨ ∃ (i : Nat) (m : Nd) (l : Nat), i < j ∧ i < a ∧ f[i]? = some m ∧ n = (n.1, some (m.1, l), m.2.2 ++ [l]) ∧ (l, n.1) ∈ gs m.1
  clo : ∀ (i : Nat) (n : Nd), i < a → f[i]? = some n → ∀ g ∈ gs n.1, ∃ (j : Nat) (m : Nd), f[j]? = some m ∧ m.1 = g.2 ∧ m.2.2.length ≤ n.2.2.length + 1
  mono : ∀ (i j : Nat) (m n : Nd), i ≤ j → f[i]? = some m → f[j]? = some n → m.2.2.length ≤ n.2.2.length
  top : ∀ (i : Nat) (n m : Nd), f[a]? = some n → f[i]? = some m → m.2.2.length ≤ n.2.2.length + 1
theorem Wf.step {gs : P2 → List (Nat × P2)} {b : P2} {f : List Nd} {a : Nat} (h : Wf gs b f a) {n : Nd} (hn : f[a]? = some n) : Wf gs b (stepG f n (gs n.1)) (a + 1) := by
  obtain ⟨r, e, h2, h3, h4⟩ := stepG_char n (gs n.1) f h.nd
  rw [e]
  have ha : a < f.length := (List.getElem?_eq_some_iff.mp hn).1
  have old : ∀ (j : Nat) (m : Nd), (f ++ r)[j]? = some m → (j < f.length ∧ f[j]? = some m) ∨ (f.length ≤ j ∧ m ∈ r ∧ m.2.2.length = n.2.2.length + 1) := fun j m hm => by
    by_cases c : j < f.length
    · rw [List.getElem?_append_left c] at hm
      exact .inl ⟨c, hm⟩
    · rw [List.getElem?_append_right (by omega)] at hm
      have hr := List.mem_of_getElem? hm
      obtain ⟨l, _, q⟩ := h3 m hr
      refine .inr ⟨by omega, hr, ?_⟩
      rw [q]
      simp
  have new : ∀ {j : Nat} {m : Nd}, f[j]? = some m → (f ++ r)[j]? = some m := fun {j m} hm => by
    rw [List.getElem?_append_left (List.getElem?_eq_some_iff.mp hm).1]
    exact hm
  have all : ∀ (j : Nat) (m : Nd), (f ++ r)[j]? = some m → m.2.2.length ≤ n.2.2.length + 1 := fun j m hm => by
    rcases old j m hm with ⟨_, q⟩ | ⟨_, _, q⟩
    · exact h.top j n m hn q
    · omega
  refine ⟨h2, new h.hd, fun j m hm => ?_, fun i m hi hm g hg => ?_, fun i j m m' hij hm hm' => ?_, fun i m m' hm hm' => ?_⟩
  · rcases old j m hm with ⟨_, q⟩ | ⟨q1, q2, _⟩
    · rcases h.par j m q with q | ⟨i, m', l, i1, i2, i3, i4, i5⟩
      · exact .inl q
      · exact .inr ⟨i, m', l, i1, by omega, new i3, i4, i5⟩
    · obtain ⟨l, x1, x2⟩ := h3 m q2
      exact .inr ⟨a, n, l, by omega, by omega, new hn, x2, x1⟩
  · by_cases c : i = a
    · subst c
      have e2 : m = n := Option.some.inj (hm.symm.trans (new hn))
      subst e2
      obtain ⟨m', x1, x2⟩ := List.mem_map.mp (h4 g hg)
      obtain ⟨j, hj, rfl⟩ := List.mem_iff_getElem.mp x1
      exact ⟨j, _, List.getElem?_eq_getElem hj, x2, all j _ (List.getElem?_eq_getElem hj)⟩
    · have hi2 : i < a := by omega
      rcases old i m hm with ⟨_, q⟩ | ⟨q, _⟩
      · obtain ⟨j, m', x1, x2, x3⟩ := h.clo i m hi2 q g hg
        exact ⟨j, m', new x1, x2, x3⟩
      · omega
  · rcases old i m hm with ⟨_, q⟩ | ⟨q, _, q3⟩
    · rcases old j m' hm' with ⟨_, q'⟩ | ⟨_, _, q'⟩
      · exact h.mono i j m m' hij q q'
      · have := h.top i n m hn q
        omega
    · rcases old j m' hm' with ⟨q', _⟩ | ⟨_, _, q'⟩
      · omega
      · omega
  · have l1 := all i m' hm'
    have : n.2.2.length ≤ m.2.2.length := by
      rcases old (a + 1) m hm with ⟨_, q⟩ | ⟨_, _, q⟩
      · exact h.mono a (a + 1) n m (by omega) hn q
      · omega
    omega
/-! ### readings lead to the pairs -/
section
variable {L : Nat} {nx1 os1 nx2 os2 : List (List Nat)}
def stW (nx : List (List Nat)) (s : Nat) (w : List Nat) : Nat := w.foldl (fun s l => at1 (rw1 nx s) l) s
theorem stW_snoc (nx : List (List Nat)) (s : Nat) (w : List Nat) (l : Nat) : stW nx s (w ++ [l]) = at1 (rw1 nx (stW nx s w)) l := by
  unfold stW
  rw [List.foldl_append]
  rfl
def runP (nx1 nx2 : List (List Nat)) (b : P2) (w : List Nat) : P2 := (stW nx1 b.1 w, stW nx2 b.2 w)
def gsP (L : Nat) (nx1 nx2 : List (List Nat)) (p : P2) : List (Nat × P2) := (List.range L).map fun l => (l, (at1 (rw1 nx1 p.1) l, at1 (rw1 nx2 p.2) l))
theorem mem_gsP {p g : P2} {l : Nat} : (l, g) ∈ gsP L nx1 nx2 p ↔ l < L ∧ g = (at1 (rw1 nx1 p.1) l, at1 (rw1 nx2 p.2) l) := by
  unfold gsP
  constructor
  · intro h
    obtain ⟨x, hx, e⟩ := List.mem_map.mp h
    have := List.mem_range.mp hx
    cases e
    exact ⟨this, rfl⟩
  · rintro ⟨h, rfl⟩
    exact List.mem_map.mpr ⟨l, List.mem_range.mpr h, rfl⟩
theorem Wf.lead {b : P2} {f : List Nd} {a : Nat} (h : Wf (gsP L nx1 nx2) b f a) : ∀ (j : Nat) (n : Nd), f[j]? = some n → runP nx1 nx2 b n.2.2 = n.1 ∧ ∀ l ∈ n.2.2, l < L := by
  intro j
  induction j using Nat.strongRecOn with
  | ind j ih =>
    intro n hn
    rcases h.par j n hn with rfl | ⟨i, m, l, i1, i2, i3, i4, i5⟩
    · have := Option.some.inj (hn.symm.trans h.hd)
      subst this
      exact ⟨rfl, by simp⟩
    · obtain ⟨q1, q2⟩ := ih i i1 m i3
      obtain ⟨g1, g2⟩ := mem_gsP.mp i5
      have er : n.2.2 = m.2.2 ++ [l] := by rw [i4]
      rw [er]
      refine ⟨?_, fun x hx => ?_⟩
      · rw [g2]
        unfold runP at q1 ⊢
        rw [stW_snoc, stW_snoc, ← q1]
      · rcases List.mem_append.mp hx with c | c
        · exact q2 x c
        · rw [List.mem_singleton.mp c]
          exact g1
end
end Py.U
/-! The two searches over pairs find the same. -/
/-! The first reading by which two states are apart. -/
namespace Py.U
section
variable {S1 S2 L B : Nat} {nx1 os1 nx2 os2 : List (List Nat)}
theorem stW_lt {S : Nat} {nx : List (List Nat)} (h : Tbl S L S nx) : ∀ (w : List Nat) (s : Nat), s < S → (∀ l ∈ w, l < L) → stW nx s w < S
  | [], s, hs, _ => hs
  | l :: w, s, hs, hl => stW_lt h w (at1 (rw1 nx s) l) ((h.at hs).2.2 _ (at1_mem (by rw [(h.at hs).2.1]; exact hl l List.mem_cons_self))) fun x hx => hl x (List.mem_cons_of_mem _ hx)
theorem Wf.lt (h1 : Tbl S1 L S1 nx1) (h2 : Tbl S2 L S2 nx2) {b : P2} (hb : b.1 < S1 ∧ b.2 < S2) {f : List Nd} {a : Nat} (h : Wf (gsP L nx1 nx2) b f a) {n : Nd} (hn : n ∈ f) : n.1.1 < S1 ∧ n.1.2 < S2 := by
  obtain ⟨j, hj, rfl⟩ := List.mem_iff_getElem.mp hn
  obtain ⟨q1, q2⟩ := h.lead j _ (List.getElem?_eq_getElem hj)
  rw [← q1]
  exact ⟨stW_lt h1 _ _ hb.1 q2, stW_lt h2 _ _ hb.2 q2⟩
theorem all_pairs (S1 S2 : Nat) : ((List.range S1).flatMap fun i => (List.range S2).map fun j => (i, j)).length = S1 * S2 := by
  rw [List.length_flatMap]
  have : (List.range S1).map (fun a => ((List.range S2).map fun j => (a, j)).length) = List.replicate S1 S2 := by
    apply List.ext_getElem <;> simp
  rw [this]
  simp
theorem Wf.size (h1 : Tbl S1 L S1 nx1) (h2 : Tbl S2 L S2 nx2) {b : P2} (hb : b.1 < S1 ∧ b.2 < S2) (f : List Nd) (a : Nat) (h : Wf (gsP L nx1 nx2) b f a) : f.length ≤ S1 * S2 := by
  have q := h.nd.length_le_of_subset (l₂ := (List.range S1).flatMap fun i => (List.range S2).map fun j => (i, j)) fun p hp => by
    obtain ⟨n, hn, rfl⟩ := List.mem_map.mp hp
    obtain ⟨a1, a2⟩ := h.lt h1 h2 hb hn
    exact List.mem_flatMap.mpr ⟨n.1.1, List.mem_range.mpr a1, List.mem_map.mpr ⟨n.1.2, List.mem_range.mpr a2, rfl⟩⟩
  rw [all_pairs, List.length_map] at q
  exact q
/-! ### both exchanged -/
end
end Py.U
/-! The dict of the ways to pairs, as data. -/
namespace Py.U
section
variable {α β : Type} [DecidableEq α] {t : Bool} {kd : α → D}
/-- a dict from keys to values -/
def tabV (kd : α → D) (vd : β → D) (s : List (α × β)) : List (D × D) := s.map fun x => (kd x.1, vd x.2)
theorem find_tabV_no (h : KeyE t kd) (vd : β → D) (k : α) : ∀ (s : List (α × β)), k ∉ s.map (·.1) → find (kd k) (tabV kd vd s) = none
  | [], _ => rfl
  | x :: r, hk => by
    simp only [List.map_cons, List.mem_cons, not_or] at hk
    show (if eqv (kd x.1) (kd k) = true then some (vd x.2) else find (kd k) (tabV kd vd r)) = none
    rw [h.eq, decide_eq_false fun z => hk.1 z.symm, if_neg (by decide), find_tabV_no h vd k r hk.2]
theorem put_tabV (h : KeyE t kd) (vd : β → D) (k : α) (b : β) : ∀ (s : List (α × β)), k ∉ s.map (·.1) → putD (kd k) (vd b) (tabV kd vd s) = tabV kd vd (s ++ [(k, b)])
  | [], _ => rfl
  | x :: r, hk => by
    simp only [List.map_cons, List.mem_cons, not_or] at hk
    show (if eqv (kd x.1) (kd k) = true then (kd x.1, vd b) :: tabV kd vd r else (kd x.1, vd x.2) :: putD (kd k) (vd b) (tabV kd vd r)) = _
    rw [h.eq, decide_eq_false fun z => hk.1 z.symm, if_neg (by decide), put_tabV h vd k b r hk.2]
    rfl
theorem find_tabV (h : KeyE t kd) (vd : β → D) : ∀ (s : List (α × β)) (j : Nat) (x : α × β), (s.map (·.1)).Nodup → s[j]? = some x → find (kd x.1) (tabV kd vd s) = some (vd x.2)
  | [], j, x, _, hj => by simp at hj
  | y :: r, 0, x, _, hj => by
    have := Option.some.inj hj
    subst this
    show (if eqv (kd y.1) (kd y.1) = true then some (vd y.2) else _) = _
    rw [h.eq, decide_eq_true rfl, if_pos rfl]
  | y :: r, j + 1, x, hn, hj => by
    rw [List.map_cons, List.nodup_cons] at hn
    have hj2 : r[j]? = some x := hj
    have hm : x.1 ∈ r.map (·.1) := List.mem_map.mpr ⟨x, List.mem_of_getElem? hj2, rfl⟩
    have ne : ¬ y.1 = x.1 := fun e => hn.1 (by rw [e]; exact hm)
    show (if eqv (kd y.1) (kd x.1) = true then some (vd y.2) else find (kd x.1) (tabV kd vd r)) = _
    rw [h.eq, decide_eq_false ne, if_neg (by decide), find_tabV h vd r j x hn.2 hj2]
theorem find_tabV_in (h : KeyE t kd) (vd : β → D) (k : α) : ∀ (s : List (α × β)), k ∈ s.map (·.1) → (find (kd k) (tabV kd vd s)).isSome = true
  | [], hk => by cases hk
  | y :: r, hk => by
    show (if eqv (kd y.1) (kd k) = true then some (vd y.2) else find (kd k) (tabV kd vd r)).isSome = true
    rw [h.eq]
    by_cases e : y.1 = k
    · rw [decide_eq_true e, if_pos rfl]
      rfl
    · rw [decide_eq_false e, if_neg (by decide)]
      refine find_tabV_in h vd k r ?_
      rw [List.map_cons, List.mem_cons] at hk
      rcases hk with q | q
      · exact absurd q.symm e
      · exact q
theorem tabV_len (kd : α → D) (vd : β → D) (s : List (α × β)) : (tabV kd vd s).length = s.length := by simp [tabV]
end
end Py.U
/-! How long the readings found are. -/
/-! The least machine's states beside what they were made of. No program in sight. -/
namespace Py.U
section
variable {α : Type} [DecidableEq α]
/-- where it stands -/
def ixF (F : List α) (q : α) : Nat := F.idxOf q
variable {succ : α → List α} {outv : α → List Nat} {F : List α} {L : Nat}
theorem ixF_at {p : α} (hp : p ∈ F) : ixF F p < F.length ∧ F[ixF F p]? = some p := by
  have h := List.idxOf_lt_length_of_mem hp
  refine ⟨h, ?_⟩
  have h' : ixF F p < F.length := h
  rw [List.getElem?_eq_getElem h']
  exact congrArg some (List.getElem_idxOf h)
theorem nx_at (hc : CldU succ F F.length) {p q : α} (hp : p ∈ F) {l : Nat} (hq : (succ p)[l]? = some q) : at1 (rw1 (F.map (cn succ F)) (ixF F p)) l = ixF F q ∧ q ∈ F := by
  obtain ⟨h1, h2⟩ := ixF_at hp
  have r2 : rw1 (F.map (cn succ F)) (ixF F p) = cn succ F p := by
    unfold rw1
    rw [List.getD_eq_getElem?_getD, List.getElem?_map, h2]
    rfl
  refine ⟨?_, hc _ p h1 h2 q (List.mem_of_getElem? hq)⟩
  rw [r2]
  unfold at1 cn
  rw [List.getD_eq_getElem?_getD, List.getElem?_map, hq]
  rfl
theorem os_at {p : α} (hp : p ∈ F) : rw1 (F.map outv) (ixF F p) = outv p := by
  obtain ⟨h1, h2⟩ := ixF_at hp
  unfold rw1
  rw [List.getD_eq_getElem?_getD, List.getElem?_map, h2]
  rfl
/-- a state of the least machine and one it stands for -/
def QQ (F : List α) (nx os : List (List Nat)) (i : Nat) (p : α) : Prop := i < (fndM nx os).length ∧ p ∈ F ∧ at1 (clsM nx os) ((fndM nx os).getD i 0) = at1 (clsM nx os) (ixF F p)
theorem QQ.inj {nx os : List (List Nat)} {S : Nat} (h : Tbl S L S nx) (ho : os.length = S) (h0 : 0 < S) {i j : Nat} {p : α} (a : QQ F nx os i p) (b : QQ F nx os j p) : i = j := by
  obtain ⟨g1, _⟩ := fndM_ok h ho h0
  have e := a.2.2.trans b.2.2.symm
  have hi' : i < (fndM nx os).length := a.1
  have hj' : j < (fndM nx os).length := b.1
  have hi : i < ((fndM nx os).map (at1 (clsM nx os))).length := by rw [List.length_map]; exact a.1
  have hj : j < ((fndM nx os).map (at1 (clsM nx os))).length := by rw [List.length_map]; exact b.1
  refine (List.getElem_inj (h₀ := hi) (h₁ := hj) g1.nd).mp ?_
  rw [List.getElem_map, List.getElem_map]
  have ei : (fndM nx os).getD i 0 = (fndM nx os)[i]'hi' := by rw [List.getD_eq_getElem?_getD, List.getElem?_eq_getElem hi']; rfl
  have ej : (fndM nx os).getD j 0 = (fndM nx os)[j]'hj' := by rw [List.getD_eq_getElem?_getD, List.getElem?_eq_getElem hj']; rfl
  rw [← ei, ← ej, e]
theorem QQ.step (hc : CldU succ F F.length) {os : List (List Nat)} (h : Tbl F.length L F.length (F.map (cn succ F))) (ho : os.length = F.length) {i l : Nat} {p q : α} (a : QQ F (F.map (cn succ F)) os i p) (hl : l < L) (hq : (succ p)[l]? = some q) : QQ F (F.map (cn succ F)) os (at1 (rw1 (lsN (F.map (cn succ F)) os) i) l) q := by
  obtain ⟨a1, a2, a3⟩ := a
  obtain ⟨h1, h2⟩ := ixF_at a2
  have h0 : 0 < F.length := by omega
  obtain ⟨b1, b2⟩ := ls_goal h ho h0 a1 hl
  obtain ⟨c1, c2⟩ := nx_at hc a2 hq
  refine ⟨b1, c2, ?_⟩
  rw [b2, cls_goal h ho h0 (fnd_lt h ho h0 a1) h1 hl a3, c1]
theorem QQ.out {nx : List (List Nat)} (h : Tbl F.length L F.length nx) {i : Nat} {p : α} (a : QQ F nx (F.map outv) i p) : rw1 (lsO nx (F.map outv)) i = outv p := by
  obtain ⟨a1, a2, a3⟩ := a
  obtain ⟨h1, h2⟩ := ixF_at a2
  have h0 : 0 < F.length := by omega
  have ho : (F.map outv).length = F.length := by simp
  have er : RefO F.length (F.map outv) (clsM nx (F.map outv)) := refO_cls h _ _ (refO_numb ho)
  have e := er _ _ (fnd_lt h ho h0 a1) h1 a3
  have e2 : rw1 (lsO nx (F.map outv)) i = rw1 (F.map outv) ((fndM nx (F.map outv)).getD i 0) := rw1_map a1
  rw [e2, e, os_at a2]
theorem QQ.all {nx os : List (List Nat)} (hn : F.Nodup) (h0 : 0 < F.length) (h : Tbl F.length L F.length nx) (ho : os.length = F.length) {i : Nat} (hi : i < (fndM nx os).length) : ∃ p, QQ F nx os i p := by
  have hlt := fnd_lt h ho h0 hi
  refine ⟨F[(fndM nx os).getD i 0], hi, List.getElem_mem hlt, ?_⟩
  have : ixF F F[(fndM nx os).getD i 0] = (fndM nx os).getD i 0 := by
    unfold ixF
    exact hn.idxOf_getElem _ hlt
  rw [this]
end
end Py.U
/-! Machines that write alike have one least machine. No program in sight. -/
namespace Py.U
section
variable {S L B : Nat} {nx os : List (List Nat)}
/-- states that write alike are of one class -/
theorem cls_of_wr (h : Tbl S L S nx) (ho : Tbl S L B os) (h0 : 0 < S) {s s' : Nat} (hs : s < S) (hs' : s' < S) (e : ∀ w : List Nat, (∀ l ∈ w, l < L) → wr nx os s w = wr nx os s' w) : at1 (clsM nx os) s = at1 (clsM nx os) s' := by
  have hm := met_numb os
  rw [ho.len] at hm
  obtain ⟨j', _, e2⟩ := cls_words (os := os) h h0 nx.length 1 (numb os) hm fun s s' hs hs' w => by
    refine numb_same (by rw [ho.len]; exact hs) (by rw [ho.len]; exact hs') ?_
    have r := row_eq (ho.at hs).2.1 (ho.at hs').2.1 fun l hl => Eqw.bit (j := 0) w hl
    rwa [rw1_get (by rw [ho.len]; exact hs), rw1_get (by rw [ho.len]; exact hs')] at r
  exact e2 s s' hs hs' fun w _ hw => e w hw
end
theorem idx_pw {C1 C2 : Nat → Nat} {x y : Nat} : ∀ (f g : List Nat), f.length = g.length → (∀ i, i < f.length → (C1 (f.getD i 0) = x ↔ C2 (g.getD i 0) = y)) → (f.map C1).idxOf x = (g.map C2).idxOf y
  | [], [], _, _ => rfl
  | a :: f, [], h, _ => by simp at h
  | [], b :: g, h, _ => by simp at h
  | a :: f, b :: g, h, e => by
    have e0 := e 0 (by simp)
    have ih := idx_pw f g (by simpa using h) fun i hi => by
      have := e (i + 1) (by simpa using hi)
      simpa using this
    simp only [List.getD_cons_zero] at e0
    simp only [List.map_cons, List.idxOf_cons]
    by_cases c : C1 a = x
    · have d := e0.mp c
      simp [c, d]
    · have d : ¬ C2 b = y := fun z => c (e0.mpr z)
      have c' : (C1 a == x) = false := by simpa using c
      have d' : (C2 b == y) = false := by simpa using d
      rw [c', d']
      simp [ih]
section
variable {S1 S2 L B : Nat} {nx1 os1 nx2 os2 : List (List Nat)}
/-- all words are written alike -/
def WW (L : Nat) (nx1 os1 nx2 os2 : List (List Nat)) (s t : Nat) : Prop := ∀ w : List Nat, (∀ l ∈ w, l < L) → wr nx1 os1 s w = wr nx2 os2 t w
theorem WW.goal {s t l : Nat} (h : WW L nx1 os1 nx2 os2 s t) (hl : l < L) : WW L nx1 os1 nx2 os2 (at1 (rw1 nx1 s) l) (at1 (rw1 nx2 t) l) := fun w hw => by
  have q := h (l :: w) (fun x hx => by
    rcases List.mem_cons.mp hx with rfl | hx
    · exact hl
    · exact hw x hx)
  unfold wr at q
  exact (List.cons.inj q).2
theorem WW.bit {s t l : Nat} (h : WW L nx1 os1 nx2 os2 s t) (hl : l < L) : at1 (rw1 os1 s) l = at1 (rw1 os2 t) l := by
  have q := h [l] (fun x hx => by rw [List.mem_singleton.mp hx]; exact hl)
  unfold wr at q
  exact (List.cons.inj q).1
theorem WW.row (o1 : Tbl S1 L B os1) (o2 : Tbl S2 L B os2) {s t : Nat} (hs : s < S1) (ht : t < S2) (h : WW L nx1 os1 nx2 os2 s t) : rw1 os1 s = rw1 os2 t := row_eq (o1.at hs).2.1 (o2.at ht).2.1 fun l hl => h.bit hl
theorem WW.cls (h1 : Tbl S1 L S1 nx1) (h2 : Tbl S2 L S2 nx2) (o1 : Tbl S1 L B os1) (o2 : Tbl S2 L B os2) {s s' t t' : Nat} (hs : s < S1) (hs' : s' < S1) (ht : t < S2) (ht' : t' < S2) (h : WW L nx1 os1 nx2 os2 s t) (h' : WW L nx1 os1 nx2 os2 s' t') : at1 (clsM nx1 os1) s = at1 (clsM nx1 os1) s' ↔ at1 (clsM nx2 os2) t = at1 (clsM nx2 os2) t' :=
  ⟨fun e => cls_of_wr h2 o2 (by omega) ht ht' fun w hw => by rw [← h w hw, ← h' w hw, cls_wr h1 o1 (by omega) w hw s s' hs hs' e],
   fun e => cls_of_wr h1 o1 (by omega) hs hs' fun w hw => by rw [h w hw, h' w hw, cls_wr h2 o2 (by omega) w hw t t' ht ht' e]⟩
/-- two lists of states, place by place -/
structure PW (S1 S2 L : Nat) (nx1 os1 nx2 os2 : List (List Nat)) (f g : List Nat) : Prop where
  len : f.length = g.length
  lt1 : ∀ s ∈ f, s < S1
  lt2 : ∀ t ∈ g, t < S2
  ww : ∀ i, i < f.length → WW L nx1 os1 nx2 os2 (f.getD i 0) (g.getD i 0)
theorem getD_mem {f : List Nat} {i : Nat} (h : i < f.length) : f.getD i 0 ∈ f := by
  rw [List.getD_eq_getElem?_getD, List.getElem?_eq_getElem h]
  exact List.getElem_mem h
theorem PW.idx (h1 : Tbl S1 L S1 nx1) (h2 : Tbl S2 L S2 nx2) (o1 : Tbl S1 L B os1) (o2 : Tbl S2 L B os2) {f g : List Nat} (p : PW S1 S2 L nx1 os1 nx2 os2 f g) {s t : Nat} (hs : s < S1) (ht : t < S2) (h : WW L nx1 os1 nx2 os2 s t) : (f.map (at1 (clsM nx1 os1))).idxOf (at1 (clsM nx1 os1) s) = (g.map (at1 (clsM nx2 os2))).idxOf (at1 (clsM nx2 os2) t) :=
  idx_pw f g p.len fun i hi => WW.cls h1 h2 o1 o2 (p.lt1 _ (getD_mem hi)) hs (p.lt2 _ (getD_mem (by rw [← p.len]; exact hi))) ht (p.ww i hi) h
theorem PW.step (h1 : Tbl S1 L S1 nx1) (h2 : Tbl S2 L S2 nx2) (o1 : Tbl S1 L B os1) (o2 : Tbl S2 L B os2) {f g : List Nat} (p : PW S1 S2 L nx1 os1 nx2 os2 f g) {s t : Nat} (hs : s < S1) (ht : t < S2) (h : WW L nx1 os1 nx2 os2 s t) : PW S1 S2 L nx1 os1 nx2 os2 (stepT (at1 (clsM nx1 os1)) f s) (stepT (at1 (clsM nx2 os2)) g t) := by
  have e := p.idx h1 h2 o1 o2 hs ht h
  have i1 : at1 (clsM nx1 os1) s ∈ f.map (at1 (clsM nx1 os1)) ↔ at1 (clsM nx2 os2) t ∈ g.map (at1 (clsM nx2 os2)) := by
    rw [← List.idxOf_lt_length_iff, ← List.idxOf_lt_length_iff, e, List.length_map, List.length_map, p.len]
  unfold stepT
  by_cases c : at1 (clsM nx1 os1) s ∈ f.map (at1 (clsM nx1 os1))
  · rw [if_pos c, if_pos (i1.mp c)]
    exact p
  · rw [if_neg c, if_neg fun z => c (i1.mpr z)]
    refine ⟨by simp [p.len], fun x hx => ?_, fun x hx => ?_, fun i hi => ?_⟩
    · rcases List.mem_append.mp hx with q | q
      · exact p.lt1 x q
      · rw [List.mem_singleton.mp q]; exact hs
    · rcases List.mem_append.mp hx with q | q
      · exact p.lt2 x q
      · rw [List.mem_singleton.mp q]; exact ht
    · by_cases q : i < f.length
      · rw [getD_pre q, getD_pre (by rw [← p.len]; exact q)]
        exact p.ww i q
      · have ei : i = f.length := by simp at hi; omega
        have e1 : (f ++ [s]).getD i 0 = s := by
          rw [List.getD_eq_getElem?_getD, List.getElem?_append_right (by omega), ei, Nat.sub_self]
          rfl
        have e2 : (g ++ [t]).getD i 0 = t := by
          rw [List.getD_eq_getElem?_getD, List.getElem?_append_right (by rw [← p.len]; omega), ei, p.len, Nat.sub_self]
          rfl
        rw [e1, e2]
        exact h
end
end Py.U
/-! The first reading written unlike, and its length. No program in sight. -/
/-! Words of numbers, bit by bit. -/
namespace Py.U
def bt (n p : Nat) : Nat := n / 2 ^ p % 2
theorem bt01 (n p : Nat) : bt n p = 0 ∨ bt n p = 1 := by
  unfold bt
  omega
theorem bt_tb (n p : Nat) : bt n p = if n.testBit p then 1 else 0 := by
  rw [Nat.testBit_eq_decide_div_mod_eq]
  unfold bt
  by_cases h : n / 2 ^ p % 2 = 1
  · simp [h]
  · simp [h]
    omega
theorem bt_mod {n p w : Nat} (h : p < w) : bt (n % 2 ^ w) p = bt n p := by
  rw [bt_tb, bt_tb, Nat.testBit_mod_two_pow]
  simp [h]
theorem eq_of_bt {w : Nat} : ∀ {m n : Nat}, m < 2 ^ w → n < 2 ^ w → (∀ p, p < w → bt m p = bt n p) → m = n := fun {m n} hm hn h => by
  apply Nat.eq_of_testBit_eq
  intro i
  by_cases hi : i < w
  · have := h i hi
    rw [bt_tb, bt_tb] at this
    cases e1 : m.testBit i <;> cases e2 : n.testBit i <;> simp_all
  · rw [Nat.testBit_lt_two_pow (Nat.lt_of_lt_of_le hm (Nat.pow_le_pow_right (by decide) (by omega))), Nat.testBit_lt_two_pow (Nat.lt_of_lt_of_le hn (Nat.pow_le_pow_right (by decide) (by omega)))]
/-! ### sums -/
/-! ### differences -/
end Py.U
/-! Numbers made of bits; the words of a reading, the letters of words; what a machine writes, place by place. No program in sight. -/
namespace Py.U
/-- the number whose bits, from the lowest on, are f 0, f 1, .. -/
def nb (f : Nat → Nat) : Nat → Nat
  | 0 => 0
  | k + 1 => nb f k + f k * 2 ^ k
theorem nb_lt {f : Nat → Nat} : ∀ {w : Nat}, (∀ p, p < w → f p < 2) → nb f w < 2 ^ w
  | 0, _ => by
    show 0 < 1
    decide
  | w + 1, h => by
    have q := nb_lt (f := f) (w := w) fun p hp => h p (by omega)
    have b := h w (by omega)
    unfold nb
    rw [Nat.pow_succ]
    have : f w = 0 ∨ f w = 1 := by omega
    rcases this with e | e <;> rw [e] <;> omega
theorem bt_nb {f : Nat → Nat} {p : Nat} : ∀ {w : Nat}, (∀ p, p < w → f p < 2) → p < w → bt (nb f w) p = f p
  | 0, _, h => by omega
  | w + 1, h, hp => by
    have hl := nb_lt (f := f) (w := w) fun p hp => h p (by omega)
    have pos : 0 < 2 ^ w := Nat.two_pow_pos w
    unfold nb
    by_cases e : p < w
    · rw [← bt_nb (f := f) (w := w) (fun p hp => h p (by omega)) e]
      rw [← bt_mod e (n := nb f w + f w * 2 ^ w), Nat.add_mul_mod_self_right, bt_mod e]
    · have e2 : p = w := by omega
      subst e2
      unfold bt
      rw [Nat.add_mul_div_right _ _ pos, Nat.div_eq_of_lt hl, Nat.zero_add, Nat.mod_eq_of_lt (h p (by omega))]
theorem nb_sum (f : Nat → Nat) : ∀ w, ((List.range w).map fun p => f p * 2 ^ p).sum = nb f w
  | 0 => rfl
  | w + 1 => by
    rw [List.range_succ, List.map_append, List.sum_append, nb_sum f w]
    simp [nb]
/-- the k-th word of a reading -/
def wdK (ls : List Nat) (k : Nat) : Nat := nb (fun p => bt (at1 ls p) k) ls.length
theorem bt_lt2 (x p : Nat) : bt x p < 2 := by
  rcases bt01 x p with e | e <;> omega
/-! ### what is written, place by place -/
theorem wr_len (nx os : List (List Nat)) : ∀ (ls : List Nat) (s : Nat), (wr nx os s ls).length = ls.length
  | [], _ => rfl
  | l :: ls, s => by
    unfold wr
    rw [List.length_cons, List.length_cons, wr_len nx os ls]
end Py.U
/-! One letter for ever: what is written in the end. No program in sight. -/
namespace Py.U
open PySem
section
variable {S L B : Nat} {nx os : List (List Nat)}
def stR (nx : List (List Nat)) (s : Nat) (ls : List Nat) : Nat := ls.foldl (fun s l => at1 (rw1 nx s) l) s
def itR (nx : List (List Nat)) (l : Nat) : Nat → Nat → Nat
  | 0, s => s
  | k + 1, s => itR nx l k (at1 (rw1 nx s) l)
theorem itR_add (nx : List (List Nat)) (l b : Nat) : ∀ (a s : Nat), itR nx l (a + b) s = itR nx l b (itR nx l a s)
  | 0, s => by rw [Nat.zero_add]; rfl
  | a + 1, s => by
    rw [show a + 1 + b = (a + b) + 1 by omega]
    exact itR_add nx l b a _
theorem itR_succ (nx : List (List Nat)) (l k s : Nat) : itR nx l (k + 1) s = at1 (rw1 nx (itR nx l k s)) l := itR_add nx l 1 k s
theorem stR_app (nx : List (List Nat)) (s : Nat) (r t : List Nat) : stR nx s (r ++ t) = stR nx (stR nx s r) t := by
  unfold stR
  rw [List.foldl_append]
theorem stR_rep (nx : List (List Nat)) (l : Nat) : ∀ (k s : Nat), stR nx s (List.replicate k l) = itR nx l k s
  | 0, s => rfl
  | k + 1, s => by
    rw [List.replicate_succ]
    exact stR_rep nx l k _
theorem at_lt (h : Tbl S L B nx) {s l : Nat} (hs : s < S) (hl : l < L) : at1 (rw1 nx s) l < B := by
  obtain ⟨_, h2, h3⟩ := h.at hs
  exact h3 _ (at1_mem (by rw [h2]; exact hl))
theorem stR_lt (h : Tbl S L S nx) : ∀ (ls : List Nat) {s : Nat}, s < S → (∀ l ∈ ls, l < L) → stR nx s ls < S
  | [], s, hs, _ => hs
  | l :: ls, s, hs, hl => stR_lt h ls (at_lt h hs (hl l List.mem_cons_self)) fun x hx => hl x (List.mem_cons_of_mem _ hx)
/-- the k-th bit where l alone is read from s -/
def wR (nx os : List (List Nat)) (l s k : Nat) : Nat := at1 (rw1 os (itR nx l k s)) l
def EvC (nx os : List (List Nat)) (l s : Nat) : Prop := ∃ N b, ∀ k, N ≤ k → wR nx os l s k = b
/-- a walk within a list comes back -/
theorem it_back {l s : Nat} {U : List Nat} (hU : ∀ k, itR nx l k s ∈ U) : ∃ i p, 0 < p ∧ i + p ≤ U.length ∧ itR nx l (i + p) s = itR nx l i s := by
  have hn : ¬ ((List.range (U.length + 1)).map fun k => itR nx l k s).Nodup := fun h => by
    have := h.length_le_of_subset (l₂ := U) fun x hx => by
      obtain ⟨k, _, rfl⟩ := List.mem_map.mp hx
      exact hU k
    simp only [List.length_map, List.length_range] at this
    omega
  have : ∃ i j, i < j ∧ j ≤ U.length ∧ itR nx l j s = itR nx l i s := by
    refine Classical.byContradiction fun hc => hn ?_
    refine List.pairwise_iff_getElem.mpr fun i j hi hj hij e => hc ⟨i, j, hij, ?_, ?_⟩
    · simp at hj
      omega
    · simp at e
      exact e.symm
  obtain ⟨i, j, h1, h2, h3⟩ := this
  exact ⟨i, j - i, by omega, by omega, by rw [show i + (j - i) = j by omega]; exact h3⟩
theorem it_per {l s i p : Nat} (h : itR nx l (i + p) s = itR nx l i s) : ∀ k, i ≤ k → itR nx l (k + p) s = itR nx l k s := fun k hk => by
  obtain ⟨d, rfl⟩ : ∃ d, k = i + d := ⟨k - i, by omega⟩
  rw [show i + d + p = (i + p) + d by omega, itR_add, h, ← itR_add]
/-- a window as long as the walk's places tells -/
theorem ev_win {l s : Nat} {U : List Nat} (hU : ∀ k, itR nx l k s ∈ U) {M K : Nat} (hM : U.length ≤ M) (hK : M ≤ K) : EvC nx os l s ↔ ∀ k, k < M → wR nx os l s (K + k) = wR nx os l s K := by
  obtain ⟨i, p, hp, hi, hb⟩ := it_back hU
  have per : ∀ k, i ≤ k → wR nx os l s (k + p) = wR nx os l s k := fun k hk => by
    unfold wR
    rw [it_per hb k hk]
  have perN : ∀ t k, i ≤ k → wR nx os l s (k + t * p) = wR nx os l s k := fun t => by
    induction t with
    | zero => intro k _; rw [Nat.zero_mul, Nat.add_zero]
    | succ t ih =>
      intro k hk
      rw [Nat.succ_mul, show k + (t * p + p) = (k + t * p) + p by omega, per _ (by omega), ih k hk]
  constructor
  · rintro ⟨N, b, h⟩ k hk
    have big : ∀ k, i ≤ k → wR nx os l s k = b := fun k hk => by
      rw [← perN N k hk]
      refine h _ ?_
      have : N * 1 ≤ N * p := Nat.mul_le_mul_left _ hp
      omega
    rw [big _ (by omega), big _ (by omega)]
  · intro h
    refine ⟨K, wR nx os l s K, fun k hk => ?_⟩
    induction k using Nat.strongRecOn with
    | ind k ih =>
      by_cases hw : k < K + M
      · have := h (k - K) (by omega)
        rwa [show K + (k - K) = k by omega] at this
      · have := per (k - p) (by omega)
        rw [show k - p + p = k by omega] at this
        rw [this]
        exact ih (k - p) (by omega) (by omega)
/-- what is written behind a reading -/
theorem wr_app (nx os : List (List Nat)) : ∀ (r t : List Nat) (s : Nat), wr nx os s (r ++ t) = wr nx os s r ++ wr nx os (stR nx s r) t
  | [], t, s => rfl
  | l :: r, t, s => by
    show _ :: wr nx os _ (r ++ t) = _
    rw [wr_app nx os r t]
    rfl
theorem wr_rep (nx os : List (List Nat)) (l : Nat) : ∀ (n s : Nat), wr nx os s (List.replicate n l) = (List.range n).map (wR nx os l s)
  | 0, s => rfl
  | n + 1, s => by
    rw [List.replicate_succ, List.range_succ_eq_map, List.map_cons, List.map_map]
    show _ :: wr nx os _ (List.replicate n l) = _
    rw [wr_rep nx os l n]
    congr 1
/-- the least machine's walk ends as the machine's own -/
theorem ls_ev (h : Tbl S L S nx) (ho : Tbl S L B os) (h0 : 0 < S) {r : List Nat} (hr : ∀ l ∈ r, l < L) {l : Nat} (hl : l < L) : EvC (lsN nx os) (lsO nx os) l (stR (lsN nx os) 0 r) ↔ EvC nx os l (stR nx 0 r) := by
  have key : ∀ k, wR (lsN nx os) (lsO nx os) l (stR (lsN nx os) 0 r) k = wR nx os l (stR nx 0 r) k := fun k => by
    have q := ls_wr0 h ho h0 (ls := r ++ List.replicate (k + 1) l) fun x hx => by
      rcases List.mem_append.mp hx with hx | hx
      · exact hr x hx
      · rw [(List.mem_replicate.mp hx).2]
        exact hl
    rw [wr_app, wr_app, wr_rep, wr_rep] at q
    have q2 := (List.append_inj q (by rw [wr_len, wr_len])).2
    have q3 := congrArg (fun z => z[k]?) q2
    simpa using q3
  unfold EvC
  simp only [key]
/-! ### states that are reached -/
theorem bfs_all {C : Nat → Nat} {P : Nat → Prop} (hP : ∀ p, P p → ∀ q ∈ nx.getD p [], P q) : ∀ (k : Nat) (f : List Nat) (a : Nat), (∀ x ∈ f, P x) → ∀ x ∈ bfsL C nx k f a, P x
  | 0, f, a, h => h
  | k + 1, f, a, h => by
    unfold bfsL
    by_cases ha : a < f.length
    · rw [if_pos ha]
      refine bfs_all hP k _ _ ?_
      have hs : P (f.getD a 0) := h _ (by
        rw [List.getD_eq_getElem?_getD, List.getElem?_eq_getElem ha]
        exact List.getElem_mem ha)
      have key : ∀ (ts f : List Nat), (∀ x ∈ f, P x) → (∀ t ∈ ts, P t) → ∀ x ∈ ts.foldl (stepT C) f, P x := by
        intro ts
        induction ts with
        | nil => exact fun f h _ => h
        | cons t ts ih =>
          intro f h ht
          refine ih _ (fun x hx => ?_) fun y hy => ht y (List.mem_cons_of_mem _ hy)
          unfold stepT at hx
          split at hx
          · exact h x hx
          · rcases List.mem_append.mp hx with hx | hx
            · exact h x hx
            · rw [List.mem_singleton.mp hx]
              exact ht t List.mem_cons_self
      exact key _ f h (hP _ hs)
    · rw [if_neg ha]
      exact h
/-- each state of the least machine is reached -/
theorem ls_all (h : Tbl S L S nx) (ho : Tbl S L B os) (h0 : 0 < S) {P : Nat → Prop} (p0 : P 0) (hP : ∀ p, P p → ∀ q ∈ (lsN nx os).getD p [], P q) {s : Nat} (hs : s < (fndM nx os).length) : P s := by
  have e := ls_fnd h ho h0
  have : s ∈ fndM (lsN nx os) (lsO nx os) := by
    rw [e]
    exact List.mem_range.mpr hs
  unfold fndM at this
  exact bfs_all hP _ _ _ (fun x hx => by rw [List.mem_singleton.mp hx]; exact p0) s this
end
end Py.U
namespace Py.U
open PySem
/-! ### first readings -/
/-- the states met, in the order of a search by levels, each with its first reading -/
structure FR (nx : List (List Nat)) (L : Nat) (f : List (Nat × List Nat)) : Prop where
  nd : (f.map (·.1)).Nodup
  to : ∀ x : Nat × List Nat, x ∈ f → stR nx 0 x.2 = x.1 ∧ ∀ l ∈ x.2, l < L
  len : ∀ (i : Nat) (x : Nat × List Nat), f[i]? = some x → x.2.length ≤ i
def frD (f : List (Nat × List Nat)) : D := .dic false (tabV nD rD f)
def CldF (nx : List (List Nat)) (f : List (Nat × List Nat)) (a : Nat) : Prop := ∀ (i : Nat) (x : Nat × List Nat), i < a → f[i]? = some x → ∀ q ∈ rw1 nx x.1, q ∈ f.map (·.1)
section
variable {nx os : List (List Nat)} {n S : Nat}
abbrev fE (n : Nat) (nx os : List (List Nat)) (f : List (Nat × List Nat)) (a : Nat) (o4 o5 o6 : Option D) : Env := [some (macD n nx os), some (frD f), some (.lst (f.map fun x => nD x.1)), some (nD a), o4, o5, o6]
def frI : SM := (seq (asg (gnm 6) (bin oidx (bin oidx (un (oattr ["Machine"] "nexts") (var 0)) (var 4)) (var 5)))
  (Py.ite (tst (bin onotin (var 6) (var 1))) (seq (setL 1 (var 6) (bin oadd (bin oidx (var 1) (var 4)) (tupE (argC (var 5) argN))))
  (app 2 (var 6))) skip))
theorem fr_has {f : List (Nat × List Nat)} {q : Nat} (h : q ∈ f.map (·.1)) : onotin (nD q) (frD f) = .ok (.bl false) := by
  unfold frD
  rw [onotin_dic (key_nD.ok q), find_tabV_in key_nD rD q f h]
  rfl
theorem fr_not {f : List (Nat × List Nat)} {q : Nat} (h : q ∉ f.map (·.1)) : onotin (nD q) (frD f) = .ok (.bl true) := by
  unfold frD
  rw [onotin_dic (key_nD.ok q), find_tabV_no key_nD rD q f h]
  rfl
theorem fr_get {f : List (Nat × List Nat)} {i : Nat} {x : Nat × List Nat} (hn : (f.map (·.1)).Nodup) (h : f[i]? = some x) : oidx (frD f) (nD x.1) = .ok (rD x.2) := oidx_dic (key_nD.ok x.1) (find_tabV key_nD rD f i x hn h)
theorem row_at {B L : Nat} (h : Tbl S L B nx) {s : Nat} (hs : s < S) : oidx (.tup (nx.map rD)) (nD s) = .ok (rD (rw1 nx s)) := oidx_t (by
  rw [List.getElem?_map, (h.at hs).1]
  rfl)
theorem cell_at {B L : Nat} (h : Tbl S L B nx) {s l : Nat} (hs : s < S) (hl : l < L) : oidx (rD (rw1 nx s)) (nD l) = .ok (nD (at1 (rw1 nx s) l)) := oidx_t (by
  obtain ⟨_, h2, _⟩ := h.at hs
  rw [List.getElem?_map, List.getElem?_eq_getElem (by rw [h2]; exact hl)]
  unfold at1
  rw [List.getD_eq_getElem?_getD, List.getElem?_eq_getElem (by rw [h2]; exact hl)]
  rfl)
theorem fr_step {L : Nat} (h : Tbl S L S nx) {f : List (Nat × List Nat)} {a i l : Nat} {x : Nat × List Nat} (hf : FR nx L f) (hx : f[i]? = some x) (hs : x.1 < S) (hl : l < L) (hz : f.length ≤ 1000) (o6 : Option D) :
    ∃ f' o6', frI (fE n nx os f a (some (nD x.1)) (some (nD l)) o6) = .ok (.next (fE n nx os f' a (some (nD x.1)) (some (nD l)) o6')) ∧ FR nx L f' ∧ (∃ r, f' = f ++ r) ∧ at1 (rw1 nx x.1) l ∈ f'.map (·.1) ∧ ∀ y ∈ f', y ∈ f ∨ y.1 = at1 (rw1 nx x.1) l := by
  have q1 := mac_nx n nx os
  have q2 := row_at h hs
  have q3 := cell_at h hs hl
  have key : ∀ r : SM, seq (asg (gnm 6) (bin oidx (bin oidx (un (oattr ["Machine"] "nexts") (var 0)) (var 4)) (var 5))) r (fE n nx os f a (some (nD x.1)) (some (nD l)) o6) = r (fE n nx os f a (some (nD x.1)) (some (nD l)) (some (nD (at1 (rw1 nx x.1) l)))) := fun r => by
    refine asg_pass (d := nD (at1 (rw1 nx x.1) l)) ?_
    show ((oattr ["Machine"] "nexts" (macD n nx os) >>= fun z => oidx z (nD x.1)) >>= fun z => oidx z (nD l)) = _
    rw [q1, bind_ok, q2, bind_ok, q3]
  unfold frI
  rw [key]
  by_cases hq : at1 (rw1 nx x.1) l ∈ f.map (·.1)
  · refine ⟨f, some (nD (at1 (rw1 nx x.1) l)), ?_, hf, ⟨[], by simp⟩, hq, fun y hy => .inl hy⟩
    have q4 := fr_has hq
    rw [ite_eq, tst_eq, bin_eq]
    show (((onotin (nD (at1 (rw1 nx x.1) l)) (frD f)) >>= truthy) >>= _) = _
    rw [q4]
    rfl
  · have q4 := fr_not hq
    have q5 := fr_get hf.nd hx
    have hil : i < f.length := (List.getElem?_eq_some_iff.mp hx).1
    have hxl := hf.len i x hx
    have hz2 : f.length < SZ := Nat.lt_of_le_of_lt hz (by decide)
    refine ⟨f ++ [(at1 (rw1 nx x.1) l, x.2 ++ [l])], some (nD (at1 (rw1 nx x.1) l)), ?_, ⟨?_, ?_, ?_⟩, ⟨_, rfl⟩, by simp, fun y hy => ?_⟩
    · rw [ite_eq, tst_eq, bin_eq]
      show (((onotin (nD (at1 (rw1 nx x.1) l)) (frD f)) >>= truthy) >>= _) = _
      rw [q4]
      show seq _ _ _ = _
      have e1 : setL 1 (var 6) (bin oadd (bin oidx (var 1) (var 4)) (tupE (argC (var 5) argN))) (fE n nx os f a (some (nD x.1)) (some (nD l)) (some (nD (at1 (rw1 nx x.1) l)))) = .ok (.next ((fE n nx os f a (some (nD x.1)) (some (nD l)) (some (nD (at1 (rw1 nx x.1) l)))).set 1 (some (frD (f ++ [(at1 (rw1 nx x.1) l, x.2 ++ [l])]))))) := by
        have := setL_dic (i := 1) (j := var 6) (m := bin oadd (bin oidx (var 1) (var 4)) (tupE (argC (var 5) argN))) (e := fE n nx os f a (some (nD x.1)) (some (nD l)) (some (nD (at1 (rw1 nx x.1) l)))) (t := false) (kvs := tabV nD rD f) (k := nD (at1 (rw1 nx x.1) l)) (d := rD (x.2 ++ [l])) rfl ?_ rfl (key_nD.ok _) (by rw [tabV_len]; exact hz2)
        · rw [this, put_tabV key_nD rD _ _ f hq]
          rfl
        · show ((oidx (frD f) (nD x.1)) >>= fun z => oadd z (.tup [nD l])) = _
          rw [q5, bind_ok]
          show (if (x.2.map nD).length + 1 ≤ SZ then Res.ok (Py.D.tup (x.2.map nD ++ [nD l])) else .stuck) = _
          rw [if_pos (by rw [List.length_map]; exact Nat.le_trans (show x.2.length + 1 ≤ 1001 by omega) (by decide))]
          unfold rD
          rw [List.map_append]
          rfl
      rw [seq_eq, e1, bind_ok]
      show app 2 (var 6) [some (macD n nx os), some (frD (f ++ [(at1 (rw1 nx x.1) l, x.2 ++ [l])])), some (.lst (f.map fun x => nD x.1)), some (nD a), some (nD x.1), some (nD l), some (nD (at1 (rw1 nx x.1) l))] = _
      rw [app_eq, var_eq (d := .lst (f.map fun x => nD x.1)) rfl, bind_ok]
      show (if (f.map fun x => nD x.1).length < SZ then _ else _) = _
      rw [if_pos (by rw [List.length_map]; exact hz2)]
      simp only [fE, List.map_append]
      rfl
    · rw [List.map_append, List.nodup_append]
      refine ⟨hf.nd, by simp, fun u hu v hv e => ?_⟩
      rw [List.map_singleton, List.mem_singleton] at hv
      rw [e, hv] at hu
      exact hq hu
    · intro y hy
      rcases List.mem_append.mp hy with hy | hy
      · exact hf.to y hy
      · rw [List.mem_singleton.mp hy]
        obtain ⟨t1, t2⟩ := hf.to x (List.mem_of_getElem? hx)
        refine ⟨?_, fun z hz => ?_⟩
        · show stR nx 0 (x.2 ++ [l]) = _
          rw [stR_app, t1]
          rfl
        · rcases List.mem_append.mp hz with hz | hz
          · exact t2 z hz
          · rw [List.mem_singleton.mp hz]
            exact hl
    · intro j y hj
      by_cases hjl : j < f.length
      · rw [List.getElem?_append_left hjl] at hj
        exact hf.len j y hj
      · rw [List.getElem?_append_right (by omega)] at hj
        have : j = f.length := by
          by_cases h0 : j - f.length = 0
          · omega
          · rw [List.getElem?_eq_none (by simp; omega)] at hj
            cases hj
        subst this
        rw [Nat.sub_self] at hj
        simp at hj
        rw [← hj]
        simp
        omega
    · rcases List.mem_append.mp hy with hy | hy
      · exact .inl hy
      · rw [List.mem_singleton.mp hy]
        exact .inr rfl
theorem fr_inner {L : Nat} (h : Tbl S L S nx) (hS : S ≤ 900) {a i : Nat} {x : Nat × List Nat} (hs : x.1 < S) : ∀ (ls : List Nat) (f : List (Nat × List Nat)) (o5 o6 : Option D), FR nx L f → (∀ y ∈ f, y.1 < S) → f[i]? = some x → (∀ l ∈ ls, l < L) →
    ∃ f' o5' o6', forL (forB (gnm 5) frI) (ls.map nD) (fE n nx os f a (some (nD x.1)) o5 o6) = .ok (.next (fE n nx os f' a (some (nD x.1)) o5' o6')) ∧ FR nx L f' ∧ (∀ y ∈ f', y.1 < S) ∧ (∃ r, f' = f ++ r) ∧ ∀ l ∈ ls, at1 (rw1 nx x.1) l ∈ f'.map (·.1)
  | [], f, o5, o6, hf, hb, _, _ => ⟨f, o5, o6, rfl, hf, hb, ⟨[], by simp⟩, fun _ h => nomatch h⟩
  | l :: ls, f, o5, o6, hf, hb, hx, hl => by
    have hlen : f.length ≤ S := by
      have := hf.nd.length_le_of_subset (l₂ := List.range S) fun z hz => by
        obtain ⟨y, hy, rfl⟩ := List.mem_map.mp hz
        exact List.mem_range.mpr (hb y hy)
      simpa using this
    obtain ⟨f1, o6', e1, hf1, ⟨r1, hr1⟩, hm1, ha1⟩ := fr_step (n := n) (os := os) (a := a) h hf hx hs (hl l List.mem_cons_self) (by omega) o6
    have hb1 : ∀ y ∈ f1, y.1 < S := fun y hy => by
      rcases ha1 y hy with hy | hy
      · exact hb y hy
      · rw [hy]
        exact at_lt h hs (hl l List.mem_cons_self)
    have hx1 : f1[i]? = some x := by
      rw [hr1, List.getElem?_append_left (List.getElem?_eq_some_iff.mp hx).1]
      exact hx
    obtain ⟨f2, o5', o6'', e2, hf2, hb2, ⟨r2, hr2⟩, hm2⟩ := fr_inner h hS hs ls f1 (some (nD l)) o6' hf1 hb1 hx1 fun z hz => hl z (List.mem_cons_of_mem _ hz)
    refine ⟨f2, o5', o6'', ?_, hf2, hb2, ⟨r1 ++ r2, by rw [hr2, hr1, List.append_assoc]⟩, fun z hz => ?_⟩
    · rw [List.map_cons, forL]
      have e1' : forB (gnm 5) frI (nD l) (fE n nx os f a (some (nD x.1)) o5 o6) = .ok (.next (fE n nx os f1 a (some (nD x.1)) (some (nD l)) o6')) := e1
      rw [e1', bind_ok]
      exact e2
    · rcases List.mem_cons.mp hz with rfl | hz
      · rw [hr2, List.map_append]
        exact List.mem_append_left _ hm1
      · exact hm2 z hz
def frT : TM := tst (bin olt (var 3) (un blen (var 2)))
def frW : SM := (seq (asg (gnm 4) (bin oidx (var 2) (var 3)))
  (seq (for_ (iseq (call m_letters_of (argC (var 0) argN))) (gnm 5) frI)
  (aug 3 oiadd (cst (.int 1)))))
theorem letters_ok (h1 : 1 ≤ n) (h3 : n ≤ 3) : m_letters_of [macD n nx os] = .ok (.lst ((List.range (2 ^ n)).map nD)) := by
  have hp := pow3 h1 h3
  have q1 := mac_in n nx os
  have q2 := shl_nD (n := n) (by omega)
  have q3 : irng1 (bin oshl (cst (.int 1)) (un (oattr ["Machine"] "inputs") (var 0))) [some (macD n nx os)] = .ok ((List.range (2 ^ n)).map nD) := by
    refine irng_n ?_ (by omega)
    show ((oattr ["Machine"] "inputs" (macD n nx os)) >>= fun y => oshl (.int 1) y) = _
    rw [q1, bind_ok, q2]
  unfold m_letters_of
  rw [fn1]
  unfold b_letters_of
  show done ((irng1 (bin oshl (cst (.int 1)) (un (oattr ["Machine"] "inputs") (var 0))) [some (macD n nx os)] >>= fun xs => if xs.length ≤ 1000000 then Res.ok (Py.D.lst xs) else .stuck) >>= _) = _
  rw [q3, bind_ok, if_pos (by rw [List.length_map, List.length_range]; omega)]
  rfl
theorem fr_loop (h1 : 1 ≤ n) (h3 : n ≤ 3) (h : Tbl S (2 ^ n) S nx) (hS : S ≤ 900) : ∀ (k fu : Nat) (f : List (Nat × List Nat)) (a : Nat) (o4 o5 o6 : Option D), FR nx (2 ^ n) f → (∀ y ∈ f, y.1 < S) → CldF nx f a → a ≤ f.length → S ≤ a + k → k < fu →
    ∃ f' o4' o5' o6', whileL frT frW fu (fE n nx os f a o4 o5 o6) = .ok (.next (fE n nx os f' f'.length o4' o5' o6')) ∧ FR nx (2 ^ n) f' ∧ (∀ y ∈ f', y.1 < S) ∧ CldF nx f' f'.length ∧ (∃ r, f' = f ++ r) := by
  intro k
  induction k with
  | zero =>
    intro fu f a o4 o5 o6 hf hb hc ha hk hfu
    have hlen : f.length ≤ S := by
      have := hf.nd.length_le_of_subset (l₂ := List.range S) fun z hz => by
        obtain ⟨y, hy, rfl⟩ := List.mem_map.mp hz
        exact List.mem_range.mpr (hb y hy)
      simpa using this
    have e : a = f.length := by omega
    subst e
    obtain ⟨fu, rfl⟩ : ∃ g, fu = g + 1 := ⟨fu - 1, by omega⟩
    refine ⟨f, o4, o5, o6, ?_, hf, hb, hc, ⟨[], by simp⟩⟩
    rw [whileL]
    have q : frT (fE n nx os f f.length o4 o5 o6) = .ok false := by
      show ((Res.ok (nD f.length) >>= fun x => blen (.lst (f.map fun x => nD x.1)) >>= fun y => olt x y) >>= truthy) = _
      rw [bind_ok, blen_l, List.length_map, bind_ok]
      show olt (nD f.length) (nD f.length) >>= truthy = _
      rw [oltN]
      simp
    rw [q]
    rfl
  | succ k ih =>
    intro fu f a o4 o5 o6 hf hb hc ha hk hfu
    have hlen : f.length ≤ S := by
      have := hf.nd.length_le_of_subset (l₂ := List.range S) fun z hz => by
        obtain ⟨y, hy, rfl⟩ := List.mem_map.mp hz
        exact List.mem_range.mpr (hb y hy)
      simpa using this
    obtain ⟨fu, rfl⟩ : ∃ g, fu = g + 1 := ⟨fu - 1, by omega⟩
    have q : frT (fE n nx os f a o4 o5 o6) = .ok (decide (a < f.length)) := by
      show ((Res.ok (nD a) >>= fun x => blen (.lst (f.map fun x => nD x.1)) >>= fun y => olt x y) >>= truthy) = _
      rw [bind_ok, blen_l, List.length_map, bind_ok]
      show olt (nD a) (nD f.length) >>= truthy = _
      rw [oltN]
      rfl
    by_cases hlt : a < f.length
    · have hx : f[a]? = some f[a] := List.getElem?_eq_getElem hlt
      have hs : (f[a]).1 < S := hb _ (List.getElem_mem hlt)
      obtain ⟨f1, o5', o6', e1, hf1, hb1, ⟨r1, hr1⟩, hm1⟩ := fr_inner (n := n) (os := os) (a := a) (i := a) h hS hs (List.range (2 ^ n)) f o5 o6 hf hb hx fun l hl => List.mem_range.mp hl
      have hc1 : CldF nx f1 (a + 1) := by
        intro i x hi hxx q hq
        by_cases hia : i = a
        · subst hia
          have ex : x = f[i] := by
            rw [hr1, List.getElem?_append_left hlt, List.getElem?_eq_getElem hlt] at hxx
            exact (Option.some.inj hxx).symm
          subst ex
          obtain ⟨_, g2, _⟩ := h.at hs
          obtain ⟨l, hl, rfl⟩ := List.mem_iff_getElem.mp hq
          have := hm1 l (List.mem_range.mpr (by omega))
          unfold at1 at this
          rw [List.getD_eq_getElem?_getD, List.getElem?_eq_getElem hl] at this
          exact this
        · have hil : i < f.length := by omega
          rw [hr1, List.getElem?_append_left hil] at hxx
          have := hc i x (by omega) hxx q hq
          rw [hr1, List.map_append]
          exact List.mem_append_left _ this
      have hl1 : f.length ≤ f1.length := by rw [hr1]; simp
      obtain ⟨f2, o4'', o5'', o6'', e2, hf2, hb2, hc2, ⟨r2, hr2⟩⟩ := ih fu f1 (a + 1) (some (nD (f[a]).1)) o5' o6' hf1 hb1 hc1 (by omega) (by omega) (by omega)
      refine ⟨f2, o4'', o5'', o6'', ?_, hf2, hb2, hc2, ⟨r1 ++ r2, by rw [hr2, hr1, List.append_assoc]⟩⟩
      rw [whileL, q, decide_eq_true hlt, bind_ok, if_pos rfl]
      have eb : frW (fE n nx os f a o4 o5 o6) = .ok (.next (fE n nx os f1 (a + 1) (some (nD (f[a]).1)) o5' o6')) := by
        unfold frW
        refine (asg_pass (d := nD (f[a]).1) ?_).trans ?_
        · exact oidx_l (by rw [List.getElem?_map, hx]; rfl)
        refine (for_pass (xs := (List.range (2 ^ n)).map nD) ?_ e1).trans ?_
        · show (m_letters_of [macD n nx os] >>= _) = _
          rw [letters_ok h1 h3]
          rfl
        · rw [aug_eq, var_eq (d := nD a) rfl, bind_ok, cst_eq, bind_ok]
          rfl
      rw [eb]
      exact e2
    · have e : a = f.length := by omega
      subst e
      refine ⟨f, o4, o5, o6, ?_, hf, hb, hc, ⟨[], by simp⟩⟩
      rw [whileL, q, decide_eq_false hlt]
      rfl
/-- each state's first reading -/
theorem first_readings_ok (h1 : 1 ≤ n) (h3 : n ≤ 3) (h : Tbl S (2 ^ n) S nx) (h0 : 0 < S) (hS : S ≤ 900) (hall : ∀ (P : Nat → Prop), P 0 → (∀ p, P p → ∀ q ∈ rw1 nx p, P q) → ∀ s, s < S → P s) :
    ∃ rs : List (List Nat), m_first_readings [macD n nx os] = .ok (.lst (rs.map rD)) ∧ rs.length = S ∧ ∀ s, s < S → stR nx 0 (rw1 rs s) = s ∧ (rw1 rs s).length < S ∧ ∀ l ∈ rw1 rs s, l < 2 ^ n := by
  obtain ⟨f, o4, o5, o6, e1, hf, hb, hc, ⟨r, hr⟩⟩ := fr_loop (os := os) h1 h3 h hS S FUEL [(0, [])] 0 none none none ⟨by simp, fun x hx => by rw [List.mem_singleton.mp hx]; exact ⟨rfl, fun l hl => nomatch hl⟩, fun i x hx => by
    cases i with
    | zero => simp at hx; rw [← hx]; simp
    | succ i => simp at hx⟩ (fun y hy => by rw [List.mem_singleton.mp hy]; exact h0) (fun i x hi => by omega) (by simp) (by omega) (Nat.lt_of_le_of_lt hS (by decide))
  have hlen : f.length ≤ S := by
    have := hf.nd.length_le_of_subset (l₂ := List.range S) fun z hz => by
      obtain ⟨y, hy, rfl⟩ := List.mem_map.mp hz
      exact List.mem_range.mpr (hb y hy)
    simpa using this
  have met : ∀ s, s < S → s ∈ f.map (·.1) := hall (fun s => s ∈ f.map (·.1)) (by rw [hr]; simp) fun p hp q hq => by
    obtain ⟨x, hx, rfl⟩ := List.mem_map.mp hp
    obtain ⟨i, hi, rfl⟩ := List.mem_iff_getElem.mp hx
    exact hc i _ hi (List.getElem?_eq_getElem hi) q hq
  let rd : Nat → List Nat := fun s => (f.getD ((f.map (·.1)).idxOf s) (0, [])).2
  have at_ : ∀ s, s < S → ∃ (i : Nat) (x : Nat × List Nat), f[i]? = some x ∧ x.1 = s ∧ rd s = x.2 := fun s hs => by
    have hm := met s hs
    have hi : (f.map (·.1)).idxOf s < (f.map (·.1)).length := List.idxOf_lt_length_of_mem hm
    have hi' : (f.map (·.1)).idxOf s < f.length := by simpa using hi
    refine ⟨_, f[(f.map (·.1)).idxOf s], List.getElem?_eq_getElem hi', ?_, ?_⟩
    · have := List.getElem_idxOf hi
      rw [List.getElem_map] at this
      exact this
    · show (f.getD _ _).2 = _
      rw [List.getD_eq_getElem?_getD, List.getElem?_eq_getElem hi']
      rfl
  refine ⟨(List.range S).map rd, ?_, by simp, fun s hs => ?_⟩
  · unfold m_first_readings
    rw [fn1]
    unfold b_first_readings
    have d1 : dic1 false (cst (.int 0)) (tupE argN) [some (macD n nx os), none, none, none, none, none, none] = .ok (frD [(0, [])]) := dic1_eq rfl rfl rfl
    refine (congrArg done ((asg_pass d1).trans ((asg_pass (d := .lst [nD 0]) rfl).trans ((asg_pass (d := nD 0) rfl).trans ((seq_next (e' := fE n nx os f f.length o4 o5 o6) e1).trans (?_ : _ = Res.ok (Fl.ret (.lst (((List.range S).map rd).map rD))))))))).trans (done_ret _)
    have e2 : lcE (irng1 (un blen (un (oattr ["Machine"] "nexts") (var 0)))) [4] (gnm 4) yes (bin oidx (var 1) (var 4)) (fE n nx os f f.length o4 o5 o6) = .ok (.lst ((List.range S).map fun s => rD (rd s))) := by
      refine lc_mapI (k := nD) (h := fun s => rD (rd s)) (ys := List.range S) ?_ (by rw [List.length_range]; exact le_sz (by omega)) fun s hs => ⟨_, rfl, ?_⟩
      · refine irng_n ?_ (by omega)
        show ((oattr ["Machine"] "nexts" (macD n nx os)) >>= blen) = _
        rw [mac_nx, bind_ok, blen_t, List.length_map, h.len]
        rfl
      · obtain ⟨i, x, hx, rfl, hrd⟩ := at_ s (List.mem_range.mp hs)
        rw [hrd]
        exact fr_get hf.nd hx
    rw [ret_eq, e2, List.map_map]
    rfl
  · obtain ⟨i, x, hx, hxs, hrd⟩ := at_ s hs
    have e : rw1 ((List.range S).map rd) s = x.2 := by
      unfold rw1
      rw [List.getD_eq_getElem?_getD, List.getElem?_map, List.getElem?_range hs]
      exact hrd
    rw [e]
    obtain ⟨t1, t2⟩ := hf.to x (List.mem_of_getElem? hx)
    have := hf.len i x hx
    have := (List.getElem?_eq_some_iff.mp hx).1
    exact ⟨t1.trans hxs, by omega, t2⟩
end
end Py.U
namespace Py.U
open PySem
/-! ### ring_bits -/
theorem len_mac {n S L : Nat} {nx os : List (List Nat)} (h : Tbl S L S nx) (hS : S ≤ 1000) : lenX [("Machine", m_Machine_len)] (macD n nx os) = .ok (nD S) := by
  have e3 := mac_nx n nx os
  have f1 : m_Machine_len [macD n nx os] = .ok (nD S) := by
    unfold m_Machine_len
    rw [fn1]
    unfold b_Machine_len
    have : blen (.tup (nx.map rD)) = .ok (nD S) := by rw [blen_t, List.length_map, h.len]; rfl
    generalize macD n nx os = R at *
    generalize nx.map rD = XS at *
    simp [var, e3, this]
  have hb : 0 ≤ (S : Int) ∧ (S : Int).natAbs < B62 := ⟨by omega, Nat.lt_of_le_of_lt (show _ ≤ 1000 by omega) (by decide)⟩
  show (match m_Machine_len [macD n nx os] with
    | .ok (.int n) => if 0 ≤ n ∧ n.natAbs < B62 then Res.ok (D.int n) else .stuck
    | _ => .stuck) = _
  rw [f1]
  show (if 0 ≤ (S : Int) ∧ (S : Int).natAbs < B62 then Res.ok (D.int (S : Int)) else .stuck) = _
  rw [if_pos hb]
  rfl
section
variable {nx os : List (List Nat)} {n S L : Nat}
theorem it_lt (h : Tbl S L S nx) {l : Nat} (hl : l < L) : ∀ (k : Nat) {s : Nat}, s < S → itR nx l k s < S
  | 0, _, hs => hs
  | k + 1, s, hs => it_lt h hl k (at_lt h hs hl)
theorem cell_mac {B : Nat} (f : String) {t : List (List Nat)} (h : Tbl S L B t) (hf : oattr ["Machine"] f (macD n nx os) = .ok (.tup (t.map rD))) {i j : Nat} {e : Env} {s l : Nat} (h0 : e[0]? = some (some (macD n nx os))) (hi : e[i]? = some (some (nD s))) (hj : e[j]? = some (some (nD l))) (hs : s < S) (hl : l < L) :
    bin oidx (bin oidx (un (oattr ["Machine"] f) (var 0)) (var i)) (var j) e = .ok (nD (at1 (rw1 t s) l)) := by
  rw [bin_eq, bin_eq, un_eq, var_eq h0, bind_ok, hf, bind_ok, var_eq hi, bind_ok, row_at h hs, bind_ok, var_eq hj, bind_ok, cell_at h hs hl]
def rbA : SM := (asg (gnm 1) (bin oidx (bin oidx (un (oattr ["Machine"] "nexts") (var 0)) (var 1)) (var 2)))
def rbB : SM := (seq (app 4 (bin oidx (bin oidx (un (oattr ["Machine"] "outs") (var 0)) (var 1)) (var 2)))
  (asg (gnm 1) (bin oidx (bin oidx (un (oattr ["Machine"] "nexts") (var 0)) (var 1)) (var 2))))
theorem ring_ok (h : Tbl S L S nx) (ho : Tbl S L 2 os) (hS : S ≤ 1000) {s l : Nat} (hs : s < S) (hl : l < L) : m_ring_bits [macD n nx os, nD s, nD l] = .ok (.lst ((List.range S).map fun k => nD (wR nx os l s (S + k)))) := by
  have hlen := len_mac (n := n) (os := os) h hS
  obtain ⟨e1, q1, o3, rfl⟩ : ∃ e', forL (forB (gnm 3) rbA) ((List.range S).map nD) [some (macD n nx os), some (nD s), some (nD l), none, none] = .ok (.next e') ∧ ∃ o3, e' = [some (macD n nx os), some (nD (itR nx l S s)), some (nD l), o3, none] := by
    refine forR_inv (fun k e => ∃ o3, e = [some (macD n nx os), some (nD (itR nx l k s)), some (nD l), o3, none]) ⟨none, rfl⟩ ?_
    rintro k _ hk ⟨o3, rfl⟩
    refine ⟨_, ?_, some (nD k), rfl⟩
    show rbA [some (macD n nx os), some (nD (itR nx l k s)), some (nD l), some (nD k), none] = _
    unfold rbA
    rw [asg_eq, cell_mac "nexts" h (mac_nx n nx os) rfl rfl rfl (it_lt h hl k hs) hl, itR_succ]
    rfl
  obtain ⟨e2, q2, o3', rfl⟩ : ∃ e', forL (forB (gnm 3) rbB) ((List.range S).map nD) [some (macD n nx os), some (nD (itR nx l S s)), some (nD l), o3, some (.lst [])] = .ok (.next e') ∧ ∃ o3, e' = [some (macD n nx os), some (nD (itR nx l (S + S) s)), some (nD l), o3, some (.lst ((List.range S).map fun k => nD (wR nx os l s (S + k))))] := by
    refine forR_inv (fun k e => ∃ o3, e = [some (macD n nx os), some (nD (itR nx l (S + k) s)), some (nD l), o3, some (.lst ((List.range k).map fun k => nD (wR nx os l s (S + k))))]) ⟨o3, rfl⟩ ?_
    rintro k _ hk ⟨o3, rfl⟩
    refine ⟨_, ?_, some (nD k), rfl⟩
    show rbB [some (macD n nx os), some (nD (itR nx l (S + k) s)), some (nD l), some (nD k), some (.lst ((List.range k).map fun k => nD (wR nx os l s (S + k))))] = _
    unfold rbB
    rw [seq_eq, app_eq, var_eq (d := .lst ((List.range k).map fun k => nD (wR nx os l s (S + k)))) rfl, bind_ok]
    have c1 := cell_mac (e := [some (macD n nx os), some (nD (itR nx l (S + k) s)), some (nD l), some (nD k), some (.lst ((List.range k).map fun k => nD (wR nx os l s (S + k))))]) (i := 1) (j := 2) "outs" ho (mac_os n nx os) rfl rfl rfl (it_lt h hl (S + k) hs) hl
    show ((bin oidx (bin oidx (un (oattr ["Machine"] "outs") (var 0)) (var 1)) (var 2) _ >>= fun d => _) >>= _) = _
    rw [c1, bind_ok]
    show ((if ((List.range k).map fun k => nD (wR nx os l s (S + k))).length < SZ then _ else _) >>= _) = _
    rw [if_pos (by rw [List.length_map, List.length_range]; exact Nat.lt_of_lt_of_le (show k < 1001 by omega) (by decide)), bind_ok]
    show rbA [some (macD n nx os), some (nD (itR nx l (S + k) s)), some (nD l), some (nD k), some (.lst (((List.range k).map fun k => nD (wR nx os l s (S + k))) ++ [nD (at1 (rw1 os (itR nx l (S + k) s)) l)]))] = _
    unfold rbA
    rw [asg_eq, cell_mac "nexts" h (mac_nx n nx os) rfl rfl rfl (it_lt h hl (S + k) hs) hl, ← itR_succ, List.range_succ, List.map_append]
    rfl
  unfold m_ring_bits
  rw [fn3]
  unfold b_ring_bits
  have l1 : ∀ e : Env, e[0]? = some (some (macD n nx os)) → irng1 (un (lenX [("Machine", m_Machine_len)]) (var 0)) e = .ok ((List.range S).map nD) := fun e he => irng_n (by rw [un_eq, var_eq he, bind_ok, hlen]) hS
  refine (congrArg done ((for_pass (l1 _ rfl) q1).trans ((asg_pass (d := .lst []) rfl).trans ((for_pass (l1 _ rfl) q2).trans (?_ : _ = Res.ok (Fl.ret (.lst ((List.range S).map fun k => nD (wR nx os l s (S + k)))))))))).trans (done_ret _)
  rfl
end
/-! ### numbers_read -/
theorem bit_nn (x i : Nat) : (oshr (nD x) (nD i) >>= fun y => oand y (.int 1)) = .ok (nD (bt x i)) := by
  unfold nD
  rw [oshr_nat, bind_ok, oand1]
  unfold bt
  congr 2
theorem castsum {β : Type} (f : β → Nat) : ∀ ys : List β, (ys.map fun y => ((f y : Nat) : Int)).sum = (((ys.map f).sum : Nat) : Int)
  | [] => rfl
  | y :: ys => by
    simp only [List.map_cons, List.sum_cons, castsum f ys]
    simp
theorem nsum {β : Type} (f : β → Nat) (ys : List β) : bsum (.lst (ys.map fun y => nD (f y))) = .ok (nD (ys.map f).sum) := by
  have := sum_map (fun y => ((f y : Nat) : Int)) ys
  rw [castsum] at this
  exact this
def zN (r : List Nat) (l i : Nat) : Int := (wdK r i : Int) - (bt l i : Int) * 2 ^ r.length
def nrM : EM := (un bsum (lcE (ienum (var 1)) [6, 7] (gtup [(gnm 6), (gnm 7)]) yes (bin oshl (bin oand (bin oshr (var 7) (var 4)) (cst (.int 1))) (var 6))))
def nrB : SM := (seq (asg (gnm 5) nrM)
  (app 3 (bin osub (var 5) (bin oshl (bin oand (bin oshr (var 2) (var 4)) (cst (.int 1))) (un blen (var 1))))))
theorem enum_map {f : Nat → D} (r : List Nat) : enumL 0 (r.map f) = (List.range r.length).map fun p => .tup [nD p, f (at1 r p)] := by
  have : r.map f = (List.range r.length).map fun p => f (at1 r p) := by
    refine List.ext_getElem (by simp) fun i h1 h2 => ?_
    simp at h1
    unfold at1
    simp [h1]
  rw [this, enum_rng]
  rfl
theorem nr_m {r : List Nat} (hz : r.length ≤ 1000) {i : Nat} {o0 o2 o3 o5 o6 o7 : Option D} : nrM [o0, some (rD r), o2, o3, some (nD i), o5, o6, o7] = .ok (nD (wdK r i)) := by
  have e1 : lcE (ienum (var 1)) [6, 7] (gtup [(gnm 6), (gnm 7)]) yes (bin oshl (bin oand (bin oshr (var 7) (var 4)) (cst (.int 1))) (var 6)) [o0, some (rD r), o2, o3, some (nD i), o5, o6, o7] = .ok (.lst ((List.range r.length).map fun p => nD (bt (at1 r p) i * 2 ^ p))) := by
    refine lc_mapI (k := fun p => .tup [nD p, nD (at1 r p)]) (h := fun p => nD (bt (at1 r p) i * 2 ^ p)) (ys := List.range r.length) ?_ (by rw [List.length_range]; exact le_sz hz) fun p hp => ⟨_, rfl, ?_⟩
    · show (Res.ok (enumL 0 (r.map nD))) = _
      rw [enum_map]
    · show ((oshr (nD (at1 r p)) (nD i) >>= fun y => oand y (.int 1)) >>= fun z => oshl z (nD p)) = _
      have hp' := List.mem_range.mp hp
      rw [bit_nn, bind_ok, shl_bit (bt01 _ _) (by omega)]
  unfold nrM
  rw [un_eq, e1, bind_ok, nsum, nb_sum]
  rfl
theorem numbers_ok {n l : Nat} {r : List Nat} (hz : r.length ≤ 1000) (hn : n ≤ 1000) : m_numbers_read [nD n, rD r, nD l] = .ok (.tup ((List.range n).map fun i => .int (zN r l i))) := by
  obtain ⟨e1, q1, o4, o5, rfl⟩ : ∃ e', forL (forB (gnm 4) nrB) ((List.range n).map nD) [some (nD n), some (rD r), some (nD l), some (.lst []), none, none, none, none] = .ok (.next e') ∧ ∃ o4 o5, e' = [some (nD n), some (rD r), some (nD l), some (.lst ((List.range n).map fun i => .int (zN r l i))), o4, o5, none, none] := by
    refine forR_inv (fun k e => ∃ o4 o5, e = [some (nD n), some (rD r), some (nD l), some (.lst ((List.range k).map fun i => .int (zN r l i))), o4, o5, none, none]) ⟨none, none, rfl⟩ ?_
    rintro k _ hk ⟨o4, o5, rfl⟩
    refine ⟨_, ?_, some (nD k), some (nD (wdK r k)), rfl⟩
    show nrB [some (nD n), some (rD r), some (nD l), some (.lst ((List.range k).map fun i => .int (zN r l i))), some (nD k), o5, none, none] = _
    unfold nrB
    refine (asg_pass (nr_m hz)).trans ?_
    show app 3 _ [some (nD n), some (rD r), some (nD l), some (.lst ((List.range k).map fun i => .int (zN r l i))), some (nD k), some (nD (wdK r k)), none, none] = _
    rw [app_eq, var_eq (d := .lst ((List.range k).map fun i => .int (zN r l i))) rfl, bind_ok]
    show ((Res.ok (nD (wdK r k)) >>= fun x => ((oshr (nD l) (nD k) >>= fun y => oand y (.int 1)) >>= fun z => blen (rD r) >>= fun w => oshl z w) >>= fun y => osub x y) >>= fun d => _) = _
    have hb : blen (rD r) = .ok (nD r.length) := by
      show blen (.tup (r.map nD)) = _
      rw [blen_t, List.length_map]
      rfl
    rw [bit_nn, bind_ok, bind_ok, hb, bind_ok, shl_bit (bt01 _ _) hz, bind_ok]
    show (if ((List.range k).map fun i => Py.D.int (zN r l i)).length < SZ then Res.ok (Fl.next [some (nD n), some (rD r), some (nD l), some (.lst (((List.range k).map fun i => Py.D.int (zN r l i)) ++ [.int ((wdK r k : Int) - ((bt l k * 2 ^ r.length : Nat) : Int))])), some (nD k), some (nD (wdK r k)), none, none]) else .stuck) = _
    rw [if_pos (by rw [List.length_map, List.length_range]; exact Nat.lt_of_lt_of_le (show k < 1001 by omega) (by decide)), List.range_succ, List.map_append]
    have : (wdK r k : Int) - ((bt l k * 2 ^ r.length : Nat) : Int) = zN r l k := by
      unfold zN
      simp
    rw [this]
    rfl
  unfold m_numbers_read
  rw [fn3]
  unfold b_numbers_read
  exact (congrArg done ((asg_pass (d := .lst []) rfl).trans ((for_pass (irng_n rfl hn) q1).trans (rfl : _ = Res.ok (Fl.ret (.tup ((List.range n).map fun i => .int (zN r l i)))))))).trans (done_ret _)
/-! ### what these numbers are read as -/
theorem wd_lt (r : List Nat) (i : Nat) : wdK r i < 2 ^ r.length := nb_lt fun p _ => bt_lt2 _ _
theorem zN_bit (r : List Nat) (l i p : Nat) : zN r l i / 2 ^ p % 2 = ((if p < r.length then bt (at1 r p) i else bt l i : Nat) : Int) := by
  have hw := wd_lt r i
  have hpp : (0 : Int) < 2 ^ p := Int.pow_pos (by decide)
  unfold zN
  by_cases h : p < r.length
  · rw [if_pos h]
    have e2 : (2 : Int) ^ r.length = 2 ^ (r.length - p - 1) * 2 * 2 ^ p := by
      rw [show r.length = (r.length - p - 1) + 1 + p by omega, Int.pow_add, Int.pow_succ]
      simp
    have e3 : (wdK r i : Int) - (bt l i : Int) * 2 ^ r.length = (wdK r i : Int) + (-(bt l i : Int) * (2 ^ (r.length - p - 1) * 2)) * 2 ^ p := by
      rw [e2, Int.neg_mul, Int.neg_mul, ← Int.mul_assoc, ← Int.mul_assoc]
      omega
    rw [e3, Int.add_mul_ediv_right _ _ (by omega)]
    have e4 : (wdK r i : Int) / 2 ^ p % 2 = ((bt (wdK r i) p : Nat) : Int) := by
      unfold bt
      simp
    have e5 : bt (wdK r i) p = bt (at1 r p) i := bt_nb (f := fun p => bt (at1 r p) i) (fun p _ => bt_lt2 _ _) h
    rw [← Int.mul_assoc]
    rw [e5] at e4
    generalize -(bt l i : Int) * 2 ^ (r.length - p - 1) = c
    omega
  · rw [if_neg h]
    have hle : (2 : Int) ^ r.length ≤ 2 ^ p := by
      have := Nat.pow_le_pow_right (n := 2) (by decide) (show r.length ≤ p by omega)
      exact_mod_cast this
    have hw' : (wdK r i : Int) < 2 ^ r.length := by exact_mod_cast hw
    rcases bt01 l i with hb | hb
    · rw [hb]
      have : ((wdK r i : Int) - ((0 : Nat) : Int) * 2 ^ r.length) / 2 ^ p = 0 := by
        rw [Int.natCast_zero, Int.zero_mul, Int.sub_zero]
        exact Int.ediv_eq_zero_of_lt (by omega) (by omega)
      rw [this]
      rfl
    · rw [hb]
      have : ((wdK r i : Int) - ((1 : Nat) : Int) * 2 ^ r.length) / 2 ^ p = -1 := by
        rw [Int.natCast_one, Int.one_mul]
        generalize (2 : Int) ^ r.length = A at *
        generalize (2 : Int) ^ p = B at *
        have := Int.natCast_nonneg (wdK r i)
        refine Int.le_antisymm ?_ ?_
        · exact Int.lt_add_one_iff.mp (by rw [show (-1 : Int) + 1 = 0 by rfl]; exact Int.ediv_neg_of_neg_of_pos (by omega) hpp)
        · exact (Int.le_ediv_iff_mul_le hpp).mpr (by omega)
      rw [this]
      rfl
theorem zN_rng {r : List Nat} (hr : r.length ≤ 40) (l i : Nat) : -(2 ^ 40 : Int) ≤ zN r l i ∧ zN r l i ≤ 2 ^ 40 := by
  have hw := wd_lt r i
  have h2 : (2 : Int) ^ r.length ≤ 2 ^ 40 := by
    have := Nat.pow_le_pow_right (n := 2) (by decide) hr
    exact_mod_cast this
  have hw' : (wdK r i : Int) < 2 ^ r.length := by exact_mod_cast hw
  unfold zN
  rcases bt01 l i with hb | hb
  · rw [hb, Int.natCast_zero, Int.zero_mul]
    generalize (2 : Int) ^ r.length = A at *
    generalize (2 : Int) ^ 40 = B at *
    omega
  · rw [hb, Int.natCast_one, Int.one_mul]
    generalize (2 : Int) ^ r.length = A at *
    generalize (2 : Int) ^ 40 = B at *
    omega
end Py.U
namespace Py.U
open PySem
/-! ### loops that may give back -/
theorem forR_or' {b : D → Env → Res Fl} (I : Nat → Env → Prop) (P : Nat → D → Prop) (Q : Nat → Prop) : ∀ (m k : Nat) (e : Env), I k e → (∀ i e, k ≤ i → i < k + m → I i e → (∃ d, P i d ∧ b (nD i) e = .ok (.ret d)) ∨ (Q i ∧ ∃ e', b (nD i) e = .ok (.next e') ∧ I (i + 1) e')) →
    (∃ i d, k ≤ i ∧ i < k + m ∧ P i d ∧ forL b ((List.range' k m).map nD) e = .ok (.ret d)) ∨ ((∀ i, k ≤ i → i < k + m → Q i) ∧ ∃ e', forL b ((List.range' k m).map nD) e = .ok (.next e') ∧ I (k + m) e')
  | 0, k, e, h, _ => .inr ⟨fun i h1 h2 => by omega, e, rfl, h⟩
  | m + 1, k, e, h, hb => by
    rw [List.range'_succ, List.map_cons, forL]
    rcases hb k e (Nat.le_refl _) (by omega) h with ⟨d, hd, e1⟩ | ⟨hq, e1, h1, h2⟩
    · rw [e1]
      exact .inl ⟨k, d, Nat.le_refl _, by omega, hd, rfl⟩
    · rw [h1]
      rcases forR_or' I P Q m (k + 1) e1 h2 fun i e' hi hi2 => hb i e' (by omega) (by omega) with ⟨i, d, a1, a2, a3, a4⟩ | ⟨a1, e2, a2, a3⟩
      · exact .inl ⟨i, d, by omega, by omega, a3, a4⟩
      · refine .inr ⟨fun i h1 h2 => ?_, e2, a2, by rwa [show k + (m + 1) = k + 1 + m by omega]⟩
        by_cases hik : i = k
        · rw [hik]; exact hq
        · exact a1 i (by omega) (by omega)
theorem forR_or {b : D → Env → Res Fl} (I : Nat → Env → Prop) (P : Nat → D → Prop) (Q : Nat → Prop) {n : Nat} {e : Env} (h0 : I 0 e) (hb : ∀ i e, i < n → I i e → (∃ d, P i d ∧ b (nD i) e = .ok (.ret d)) ∨ (Q i ∧ ∃ e', b (nD i) e = .ok (.next e') ∧ I (i + 1) e')) :
    (∃ i d, i < n ∧ P i d ∧ forL b ((List.range n).map nD) e = .ok (.ret d)) ∨ ((∀ i, i < n → Q i) ∧ ∃ e', forL b ((List.range n).map nD) e = .ok (.next e') ∧ I n e') := by
  rw [List.range_eq_range']
  rcases forR_or' I P Q n 0 e h0 fun i e' _ hi => hb i e' (by omega) with ⟨i, d, a1, a2, a3, a4⟩ | ⟨a1, e2, a2, a3⟩
  · exact .inl ⟨i, d, by omega, a3, a4⟩
  · exact .inr ⟨fun i hi => a1 i (by omega) (by omega), e2, a2, by rwa [Nat.zero_add] at a3⟩
theorem for_ret {it : IM} {g : GM} {b r : SM} {e : Env} {xs : List D} {d : D} (h : it e = .ok xs) (h2 : forL (forB g b) xs e = .ok (.ret d)) : seq (for_ it g b) r e = .ok (.ret d) := by
  rw [seq_eq, for_eq, h, bind_ok, h2]
  rfl
/-! ### min and max -/
theorem fold_min : ∀ (is : List Int) (i : Int), is.foldl (fun a b => if b < a then b else a) i ≤ i ∧ ∀ x ∈ is, is.foldl (fun a b => if b < a then b else a) i ≤ x
  | [], i => ⟨Int.le_refl _, fun x h => nomatch h⟩
  | j :: is, i => by
    obtain ⟨h1, h2⟩ := fold_min is (if j < i then j else i)
    rw [List.foldl_cons]
    generalize is.foldl (fun a b => if b < a then b else a) (if j < i then j else i) = F at *
    have : F ≤ i ∧ F ≤ j := by
      split at h1 <;> omega
    refine ⟨this.1, fun x hx => ?_⟩
    rcases List.mem_cons.mp hx with rfl | hx
    · exact this.2
    · exact h2 x hx
theorem fold_max : ∀ (is : List Int) (i : Int), i ≤ is.foldl (fun a b => if b > a then b else a) i ∧ ∀ x ∈ is, x ≤ is.foldl (fun a b => if b > a then b else a) i
  | [], i => ⟨Int.le_refl _, fun x h => nomatch h⟩
  | j :: is, i => by
    obtain ⟨h1, h2⟩ := fold_max is (if j > i then j else i)
    rw [List.foldl_cons]
    generalize is.foldl (fun a b => if b > a then b else a) (if j > i then j else i) = F at *
    have : i ≤ F ∧ j ≤ F := by
      split at h1 <;> omega
    refine ⟨this.1, fun x hx => ?_⟩
    rcases List.mem_cons.mp hx with rfl | hx
    · exact this.2
    · exact h2 x hx
theorem fold_same {f : Int → Int → Int} {i : Int} (hf : f i i = i) : ∀ (is : List Int), (∀ x ∈ is, x = i) → is.foldl f i = i
  | [], _ => rfl
  | j :: is, h => by
    rw [List.foldl_cons, h j List.mem_cons_self, hf]
    exact fold_same hf is fun x hx => h x (List.mem_cons_of_mem _ hx)
/-- min != max: not all are alike -/
theorem min_max (f : Nat → Nat) {m : Nat} (hm : 0 < m) : ∃ c : Bool, (bminL (.lst ((List.range m).map fun k => nD (f k))) >>= fun x => bmaxL (.lst ((List.range m).map fun k => nD (f k))) >>= fun y => Py.one x y) = .ok (.bl c) ∧ (c = false ↔ ∀ k, k < m → f k = f 0) := by
  obtain ⟨m, rfl⟩ : ∃ j, m = j + 1 := ⟨m - 1, by omega⟩
  have e1 : intsOf ((List.range (m + 1)).map fun k => nD (f k)) = some ((f 0 : Int) :: (List.range m).map fun k => (f (k + 1) : Int)) := by
    have : ((List.range (m + 1)).map fun k => nD (f k)) = (((f 0 : Int) :: (List.range m).map fun k => (f (k + 1) : Int))).map D.int := by
      rw [List.range_succ_eq_map, List.map_cons, List.map_cons, List.map_map, List.map_map]
      rfl
    rw [this, intsOf_map]
  unfold bminL bmaxL
  simp only [e1, bind_ok]
  refine ⟨_, one_ii _ _, ?_⟩
  obtain ⟨a1, a2⟩ := fold_min ((List.range m).map fun k => (f (k + 1) : Int)) (f 0 : Int)
  obtain ⟨b1, b2⟩ := fold_max ((List.range m).map fun k => (f (k + 1) : Int)) (f 0 : Int)
  constructor
  · intro h k hk
    have h' : List.foldl (fun a b => if b < a then b else a) (f 0 : Int) ((List.range m).map fun k => (f (k + 1) : Int)) = List.foldl (fun a b => if b > a then b else a) (f 0 : Int) ((List.range m).map fun k => (f (k + 1) : Int)) := by simpa using h
    cases k with
    | zero => rfl
    | succ k =>
      have hm' : (f (k + 1) : Int) ∈ (List.range m).map fun k => (f (k + 1) : Int) := List.mem_map.mpr ⟨k, List.mem_range.mpr (by omega), rfl⟩
      have := a2 _ hm'
      have := b2 _ hm'
      omega
  · intro h
    have hs : ∀ x ∈ (List.range m).map fun k => (f (k + 1) : Int), x = (f 0 : Int) := fun x hx => by
      obtain ⟨k, hk, rfl⟩ := List.mem_map.mp hx
      rw [h (k + 1) (by have := List.mem_range.mp hk; omega)]
    rw [fold_same (by simp) _ hs, fold_same (by simp) _ hs]
    simp
/-! ### breaking_numbers -/
section
variable {nx os : List (List Nat)} {n S : Nat}
def bkI : SM := (seq (asg (gnm 5) (call m_ring_bits (argC (var 1) (argC (var 3) (argC (var 4) argN)))))
  (Py.ite (tst (bin Py.one (un bminL (var 5)) (un bmaxL (var 5)))) (ret (call m_numbers_read (argC (un (oattr ["Machine"] "inputs") (var 1)) (argC (bin oidx (var 2) (var 3)) (argC (var 4) argN))))) skip))
def bkO : SM := (for_ (irng1 (bin oshl (cst (.int 1)) (un (oattr ["Machine"] "inputs") (var 1)))) (gnm 4) bkI)
theorem ring_ev {L : Nat} (h : Tbl S L S nx) {s l : Nat} (hs : s < S) (hl : l < L) {K : Nat} (hK : S ≤ K) : EvC nx os l s ↔ ∀ k, k < S → wR nx os l s (K + k) = wR nx os l s K :=
  ev_win (U := List.range S) (fun k => List.mem_range.mpr (it_lt h hl k hs)) (by simp) hK
theorem breaking_ok (h1 : 1 ≤ n) (h3 : n ≤ 3) (h : Tbl S (2 ^ n) S nx) (ho : Tbl S (2 ^ n) 2 os) (h0 : 0 < S) (hS : S ≤ 40) :
    (m_breaking_numbers [macD n nx os] = .ok .non ∧ ∀ s, s < (fndM nx os).length → ∀ l, l < 2 ^ n → EvC (lsN nx os) (lsO nx os) l s) ∨
    ∃ r l, m_breaking_numbers [macD n nx os] = .ok (.tup ((List.range n).map fun i => .int (zN r l i))) ∧ (∀ x ∈ r, x < 2 ^ n) ∧ r.length ≤ 40 ∧ l < 2 ^ n ∧ ¬ EvC nx os l (stR nx 0 r) := by
  obtain ⟨g1, g2, g3, gr, g4⟩ := fndM_ok h ho.len h0
  have t1 := lsN_tbl h ho.len h0
  have t2 := lsO_tbl h ho h0
  have m0 : 0 < (fndM nx os).length := by rw [g4]; simp
  have q1 := least_ok h1 h3 h ho h0 (by omega)
  obtain ⟨rs, q2, rl, rd⟩ := first_readings_ok (os := lsO nx os) h1 h3 t1 m0 (by omega) fun P p0 pn s hs => ls_all h ho h0 p0 pn hs
  have hp := pow3 h1 h3
  have q3 := len_mac (n := n) (os := lsO nx os) t1 (by omega)
  have q4 := mac_in n (lsN nx os) (lsO nx os)
  have q5 := shl_nD (n := n) (by omega)
  generalize hm : (fndM nx os).length = m at *
  have body : ∀ s l o5, s < m → l < 2 ^ n → (∃ d, (d = .tup ((List.range n).map fun i => .int (zN (rw1 rs s) l i)) ∧ ¬ EvC (lsN nx os) (lsO nx os) l s) ∧ bkI [some (macD n nx os), some (macD n (lsN nx os) (lsO nx os)), some (.lst (rs.map rD)), some (nD s), some (nD l), o5] = .ok (.ret d)) ∨
      (EvC (lsN nx os) (lsO nx os) l s ∧ ∃ o5', bkI [some (macD n nx os), some (macD n (lsN nx os) (lsO nx os)), some (.lst (rs.map rD)), some (nD s), some (nD l), o5] = .ok (.next [some (macD n nx os), some (macD n (lsN nx os) (lsO nx os)), some (.lst (rs.map rD)), some (nD s), some (nD l), o5'])) := fun s l o5 hs hl => by
    have e1 := ring_ok (n := n) t1 t2 (by omega) hs hl
    obtain ⟨c, e2, hc⟩ := min_max (fun k => wR (lsN nx os) (lsO nx os) l s (m + k)) m0
    have hev := ring_ev (os := lsO nx os) t1 hs hl (Nat.le_refl m)
    have hcc : c = false ↔ EvC (lsN nx os) (lsO nx os) l s := by
      rw [hc, hev]
      rfl
    have key : bkI [some (macD n nx os), some (macD n (lsN nx os) (lsO nx os)), some (.lst (rs.map rD)), some (nD s), some (nD l), o5] = (if c then ret (call m_numbers_read (argC (un (oattr ["Machine"] "inputs") (var 1)) (argC (bin oidx (var 2) (var 3)) (argC (var 4) argN)))) else skip) [some (macD n nx os), some (macD n (lsN nx os) (lsO nx os)), some (.lst (rs.map rD)), some (nD s), some (nD l), some (.lst ((List.range m).map fun k => nD (wR (lsN nx os) (lsO nx os) l s (m + k))))] := by
      unfold bkI
      refine (asg_pass (d := .lst ((List.range m).map fun k => nD (wR (lsN nx os) (lsO nx os) l s (m + k)))) e1).trans ?_
      rw [ite_eq, tst_eq, bin_eq]
      show ((bminL (.lst ((List.range m).map fun k => nD (wR (lsN nx os) (lsO nx os) l s (m + k)))) >>= fun x => bmaxL (.lst ((List.range m).map fun k => nD (wR (lsN nx os) (lsO nx os) l s (m + k)))) >>= fun y => Py.one x y) >>= truthy) >>= _ = _
      rw [e2]
      cases c <;> rfl
    rw [key]
    cases c with
    | true =>
      refine .inl ⟨_, ⟨rfl, fun z => nomatch hcc.mpr z⟩, ?_⟩
      obtain ⟨_, r2, r3⟩ := rd s hs
      have e3 := numbers_ok (n := n) (l := l) (r := rw1 rs s) (by omega) (by omega)
      have e4 : oidx (.lst (rs.map rD)) (nD s) = .ok (rD (rw1 rs s)) := oidx_l (by
        rw [List.getElem?_map, List.getElem?_eq_getElem (by omega)]
        unfold rw1
        rw [List.getD_eq_getElem?_getD, List.getElem?_eq_getElem (by omega)]
        rfl)
      rw [if_pos rfl, ret_eq]
      show ((oattr ["Machine"] "inputs" (macD n (lsN nx os) (lsO nx os)) >>= fun x => (oidx (.lst (rs.map rD)) (nD s) >>= fun y => Res.ok [y, nD l]) >>= fun ys => Res.ok (x :: ys)) >>= m_numbers_read) >>= _ = _
      rw [q4, bind_ok, e4, bind_ok, bind_ok, bind_ok, e3]
      rfl
    | false =>
      exact .inr ⟨hcc.mp rfl, some (.lst ((List.range m).map fun k => nD (wR (lsN nx os) (lsO nx os) l s (m + k)))), rfl⟩
  have outer : ∀ s o4 o5, s < m → (∃ d, (∃ l, l < 2 ^ n ∧ d = .tup ((List.range n).map fun i => .int (zN (rw1 rs s) l i)) ∧ ¬ EvC (lsN nx os) (lsO nx os) l s) ∧ bkO [some (macD n nx os), some (macD n (lsN nx os) (lsO nx os)), some (.lst (rs.map rD)), some (nD s), o4, o5] = .ok (.ret d)) ∨
      ((∀ l, l < 2 ^ n → EvC (lsN nx os) (lsO nx os) l s) ∧ ∃ o4' o5', bkO [some (macD n nx os), some (macD n (lsN nx os) (lsO nx os)), some (.lst (rs.map rD)), some (nD s), o4, o5] = .ok (.next [some (macD n nx os), some (macD n (lsN nx os) (lsO nx os)), some (.lst (rs.map rD)), some (nD s), o4', o5'])) := fun s o4 o5 hs => by
    have hr : irng1 (bin oshl (cst (.int 1)) (un (oattr ["Machine"] "inputs") (var 1))) [some (macD n nx os), some (macD n (lsN nx os) (lsO nx os)), some (.lst (rs.map rD)), some (nD s), o4, o5] = .ok ((List.range (2 ^ n)).map nD) := by
      refine irng_n ?_ (by omega)
      show (oattr ["Machine"] "inputs" (macD n (lsN nx os) (lsO nx os)) >>= fun x => oshl (.int 1) x) = _
      rw [q4, bind_ok, q5]
    unfold bkO
    rw [for_eq, hr, bind_ok]
    rcases forR_or (b := forB (gnm 4) bkI) (n := 2 ^ n) (fun _ e => ∃ o4 o5, e = [some (macD n nx os), some (macD n (lsN nx os) (lsO nx os)), some (.lst (rs.map rD)), some (nD s), o4, o5]) (fun l d => d = .tup ((List.range n).map fun i => .int (zN (rw1 rs s) l i)) ∧ ¬ EvC (lsN nx os) (lsO nx os) l s) (fun l => EvC (lsN nx os) (lsO nx os) l s) (e := [some (macD n nx os), some (macD n (lsN nx os) (lsO nx os)), some (.lst (rs.map rD)), some (nD s), o4, o5]) ⟨o4, o5, rfl⟩ (by
      rintro l _ hl ⟨o4, o5, rfl⟩
      rcases body s l o5 hs hl with ⟨d, a1, a2⟩ | ⟨a1, o5', a2⟩
      · exact .inl ⟨d, a1, a2⟩
      · exact .inr ⟨a1, _, a2, _, _, rfl⟩) with ⟨l, d, b1, b2, b3⟩ | ⟨b1, _, b2, o4', o5', rfl⟩
    · exact .inl ⟨d, ⟨l, b1, b2⟩, b3⟩
    · exact .inr ⟨b1, _, _, b2⟩
  have start : ∀ r : SM, (seq (asg (gnm 1) (call m_least_machine (argC (var 0) argN))) (seq (asg (gnm 2) (call m_first_readings (argC (var 1) argN))) r)) [some (macD n nx os), none, none, none, none, none] = r [some (macD n nx os), some (macD n (lsN nx os) (lsO nx os)), some (.lst (rs.map rD)), none, none, none] := fun r =>
    (asg_pass (d := macD n (lsN nx os) (lsO nx os)) q1).trans (asg_pass (d := .lst (rs.map rD)) q2)
  have hr2 : irng1 (un (lenX [("Machine", m_Machine_len)]) (var 1)) [some (macD n nx os), some (macD n (lsN nx os) (lsO nx os)), some (.lst (rs.map rD)), none, none, none] = .ok ((List.range m).map nD) := irng_n (by
    show lenX [("Machine", m_Machine_len)] (macD n (lsN nx os) (lsO nx os)) = _
    exact q3) (by omega)
  unfold m_breaking_numbers
  rw [fn1]
  unfold b_breaking_numbers
  rw [show ((some (macD n nx os) :: List.replicate (6 - 1) none : Env)) = [some (macD n nx os), none, none, none, none, none] from rfl, start]
  rcases forR_or (b := forB (gnm 3) bkO) (n := m) (fun _ e => ∃ o3 o4 o5, e = [some (macD n nx os), some (macD n (lsN nx os) (lsO nx os)), some (.lst (rs.map rD)), o3, o4, o5]) (fun s d => ∃ l, l < 2 ^ n ∧ d = .tup ((List.range n).map fun i => .int (zN (rw1 rs s) l i)) ∧ ¬ EvC (lsN nx os) (lsO nx os) l s) (fun s => ∀ l, l < 2 ^ n → EvC (lsN nx os) (lsO nx os) l s) (e := [some (macD n nx os), some (macD n (lsN nx os) (lsO nx os)), some (.lst (rs.map rD)), none, none, none]) ⟨none, none, none, rfl⟩ (by
    rintro s _ hs ⟨o3, o4, o5, rfl⟩
    rcases outer s o4 o5 hs with ⟨d, a1, a2⟩ | ⟨a1, o4', o5', a2⟩
    · exact .inl ⟨d, a1, a2⟩
    · exact .inr ⟨a1, _, a2, _, _, _, rfl⟩) with ⟨s, d, b1, ⟨l, b2, rfl, b3⟩, b4⟩ | ⟨b1, _, b2, o3, o4, o5, rfl⟩
  · refine .inr ⟨rw1 rs s, l, ?_, (rd s b1).2.2, by have := (rd s b1).2.1; omega, b2, fun z => b3 ?_⟩
    · refine (congrArg done (for_ret hr2 b4)).trans (done_ret _)
    · have := (ls_ev h ho h0 (rd s b1).2.2 b2).mpr z
      rwa [(rd s b1).1] at this
  · refine .inl ⟨?_, b1⟩
    exact (congrArg done ((for_pass hr2 b2).trans rfl)).trans (done_ret .non)
end
end Py.U
namespace Py.U
open PySem
theorem nexts_ok_t {S L : Nat} {nx : List (List Nat)} (h : Tbl S L S nx) (hS : 0 < S) (hz : S ≤ 1000) (hL : L ≤ 1000) : m_right_nexts [.tup (nx.map rD), nD L] = .ok (.tup (nx.map rD)) := by
  have q1 := as_tup_t (nx.map rD)
  have q2 : truthy (.tup (nx.map rD)) = .ok true := by
    cases hx : nx with
    | nil =>
      have := h.len
      rw [hx] at this
      simp at this
      omega
    | cons a b => simp [truthy]
  have q3 : blen (.tup (nx.map rD)) = .ok (nD S) := by
    rw [blen_t, List.length_map, h.len]
    rfl
  have loop : ∃ e', forL (forB (gtup [(gnm 3), (gnm 4)]) (Py.ite (notT (tst (call m_is_line (argC (var 4) (argC (var 1) (argC (un blen (var 2)) argN)))))) (rais "InvalidMachine" ["part", "place"] (argC (cst (.str "nexts")) (argC (var 3) argN))) skip)) (enumL 0 (nx.map rD)) [some (.tup (nx.map rD)), some (nD L), some (.tup (nx.map rD)), none, none] = .ok (.next e') ∧ ∃ o3 o4, e' = [some (.tup (nx.map rD)), some (nD L), some (.tup (nx.map rD)), o3, o4] := by
    refine forL_inv (fun k e => ∃ o3 o4, e = [some (.tup (nx.map rD)), some (nD L), some (.tup (nx.map rD)), o3, o4]) 0 ⟨none, none, rfl⟩ ?_
    rintro k e hk ⟨o3, o4, rfl⟩
    have hk2 : k < nx.length := by
      rw [enum_len, List.length_map] at hk
      exact hk
    obtain ⟨h1, h2⟩ := h.row nx[k] (List.getElem_mem hk2)
    have q := line_ok h1 h2 hL
    rw [enum_at hk (by simpa using hk2), List.getElem_map, Nat.zero_add]
    generalize (k : Int) = z at *
    generalize rD nx[k] = R at *
    generalize nx.map rD = NX at *
    generalize nD L = l at *
    generalize nD S = s at *
    exact ⟨[some (.tup NX), some l, some (.tup NX), some (.int z), some R], by simp [var, gtup, gtupL, q, q3], _, _, rfl⟩
  obtain ⟨e', q4, o3, o4, rfl⟩ := loop
  have q5 : ienum (var 2) [some (.tup (nx.map rD)), some (nD L), some (.tup (nx.map rD)), none, none] = .ok (enumL 0 (nx.map rD)) := rfl
  unfold m_right_nexts
  rw [fn2]
  unfold b_right_nexts
  generalize hNX : nx.map rD = NX at *
  generalize nD L = l at *
  generalize enumL 0 NX = E at *
  simp [var, q1, q2, q4, q5]
theorem mach_made_tt {n S : Nat} {nx os : List (List Nat)} (h1 : 1 ≤ n) (h3 : n ≤ 3) (hn : Tbl S (2 ^ n) S nx) (ho : Tbl S (2 ^ n) 2 os) (hS : 0 < S) (hz : S ≤ 1000) : m_Machine [nD n, .tup (nx.map rD), .tup (os.map rD)] = .ok (macD n nx os) := by
  have hP : 2 ^ n ≤ 8 := by
    have : n = 1 ∨ n = 2 ∨ n = 3 := by omega
    rcases this with rfl | rfl | rfl <;> decide
  have q1 := inputs_ok h1 h3
  have q2 := shl_nD (n := n) (by omega)
  have q3 := nexts_ok_t hn hS hz (by omega)
  have q4 := outs_ok_t ho hz (by omega)
  have q5 : blen (.tup (nx.map rD)) = .ok (nD S) := by
    rw [blen_t, List.length_map, hn.len]
    rfl
  have q6 : oattr ["Machine"] "nexts" (.ins "Machine" [("inputs", nD n), ("nexts", .tup (nx.map rD))]) = .ok (.tup (nx.map rD)) := rfl
  have key : b_Machine_init [some (.ins "Machine" []), some (nD n), some (.tup (nx.map rD)), some (.tup (os.map rD)), none] = .ok (.next [some (macD n nx os), some (nD n), some (.tup (nx.map rD)), some (.tup (os.map rD)), some (nD (2 ^ n))]) := by
    unfold b_Machine_init macD
    generalize nx.map rD = NX at *
    generalize os.map rD = OS at *
    generalize nD (2 ^ n) = P at *
    generalize nD n = N at *
    generalize nD S = s at *
    simp [var, q1, q2, q3, q4, q5, q6, setF, putF]
  exact made_eq rfl key
end Py.U
namespace Py.U
open PySem
theorem forX_or {α : Type} {b : D → Env → Res Fl} (g : α → D) (I : Env → Prop) (P : α → D → Prop) (Q : α → Prop) : ∀ (xs : List α) (e : Env), I e → (∀ x ∈ xs, ∀ e, I e → (∃ d, P x d ∧ b (g x) e = .ok (.ret d)) ∨ (Q x ∧ ∃ e', b (g x) e = .ok (.next e') ∧ I e')) →
    (∃ x ∈ xs, ∃ d, P x d ∧ forL b (xs.map g) e = .ok (.ret d)) ∨ ((∀ x ∈ xs, Q x) ∧ ∃ e', forL b (xs.map g) e = .ok (.next e') ∧ I e')
  | [], e, h, _ => .inr ⟨fun x hx => (nomatch hx), e, rfl, h⟩
  | x :: xs, e, h, hb => by
    rw [List.map_cons, forL]
    rcases hb x List.mem_cons_self e h with ⟨d, hd, e1⟩ | ⟨hq, e1, h1, h2⟩
    · rw [e1]
      exact .inl ⟨x, List.mem_cons_self, d, hd, rfl⟩
    · rw [h1]
      rcases forX_or g I P Q xs e1 h2 fun y hy => hb y (List.mem_cons_of_mem _ hy) with ⟨y, hy, d, a3, a4⟩ | ⟨a1, e2, a2, a3⟩
      · exact .inl ⟨y, List.mem_cons_of_mem _ hy, d, a3, a4⟩
      · refine .inr ⟨fun y hy => ?_, e2, a2, a3⟩
        rcases List.mem_cons.mp hy with rfl | hy
        · exact hq
        · exact a1 y hy
/-! ### the states reached, by the law -/
section
variable {nx os : List (List Nat)} {S L : Nat}
def mtD (f : List Nat) : D := .dic false (tabV nD (fun b : Bool => .bl b) (f.map fun s => (s, true)))
abbrev bE (nx os : List (List Nat)) (f : List Nat) (o4 o5 : Option D) : Env := [some (.lst (nx.map rD)), some (.lst (os.map rD)), some (.lst (f.map nD)), some (mtD f), o4, o5, none, none, none]
def lbI : SM := (Py.ite (tst (bin onotin (var 5) (var 3))) (seq (setL 3 (var 5) (cst (.bl true)))
  (app 2 (var 5))) skip)
def lbR : SM := (Py.ite (tst (bin olt (var 4) (un blen (var 2)))) (for_ (iseq (bin oidx (var 0) (bin oidx (var 2) (var 4)))) (gnm 5) lbI) skip)
theorem mt_keys (f : List Nat) : (f.map fun s => (s, true)).map (·.1) = f := by
  rw [List.map_map]
  exact List.map_id _
theorem lb_step {f : List Nat} {t : Nat} (hz : f.length ≤ 1000) (o4 o5 : Option D) : forB (gnm 5) lbI (nD t) (bE nx os f o4 o5) = .ok (.next (bE nx os (addU f t) o4 (some (nD t)))) := by
  show lbI (bE nx os f o4 (some (nD t))) = _
  have hz2 : f.length < SZ := Nat.lt_of_le_of_lt hz (by decide)
  unfold lbI addU
  rw [ite_eq, tst_eq, bin_eq]
  by_cases h : t ∈ f
  · have q : onotin (nD t) (mtD f) = .ok (.bl false) := by
      unfold mtD
      rw [onotin_dic (key_nD.ok t), find_tabV_in key_nD _ t _ (by rw [mt_keys]; exact h)]
      rfl
    show ((onotin (nD t) (mtD f)) >>= truthy) >>= _ = _
    rw [q, if_pos h]
    rfl
  · have q : onotin (nD t) (mtD f) = .ok (.bl true) := by
      unfold mtD
      rw [onotin_dic (key_nD.ok t), find_tabV_no key_nD _ t _ (by rw [mt_keys]; exact h)]
      rfl
    show ((onotin (nD t) (mtD f)) >>= truthy) >>= _ = _
    rw [q, if_neg h]
    show seq _ _ _ = _
    have e1 := setL_dic (i := 3) (j := var 5) (m := cst (.bl true)) (e := bE nx os f o4 (some (nD t))) (t := false) (kvs := tabV nD (fun b : Bool => .bl b) (f.map fun s => (s, true))) (k := nD t) (d := .bl true) rfl rfl rfl (key_nD.ok t) (by rw [tabV_len, List.length_map]; exact hz2)
    rw [put_tabV key_nD (fun b : Bool => D.bl b) t true _ (by rw [mt_keys]; exact h)] at e1
    rw [seq_eq, e1, bind_ok]
    show app 2 (var 5) [some (.lst (nx.map rD)), some (.lst (os.map rD)), some (.lst (f.map nD)), some (.dic false (tabV nD (fun b : Bool => .bl b) ((f.map fun s => (s, true)) ++ [(t, true)]))), o4, some (nD t), none, none, none] = _
    rw [app_eq, var_eq (d := .lst (f.map nD)) rfl, bind_ok]
    show (if (f.map nD).length < SZ then _ else _) = _
    rw [if_pos (by rw [List.length_map]; exact hz2)]
    simp only [bE, mtD, List.map_append]
    rfl
theorem lb_inner (h : Tbl S L S nx) (hS : S ≤ 900) {P : Nat → Prop} (hP : ∀ p, P p → p < S) (o4 : Option D) : ∀ (ts f : List Nat) (o5 : Option D), FndU P f → (∀ t ∈ ts, P t) → ∃ o5', forL (forB (gnm 5) lbI) (ts.map nD) (bE nx os f o4 o5) = .ok (.next (bE nx os (ts.foldl addU f) o4 o5'))
  | [], f, o5, _, _ => ⟨o5, rfl⟩
  | t :: ts, f, o5, hf, ht => by
    have hlen : f.length ≤ S := by
      have := hf.nd.length_le_of_subset (l₂ := List.range S) fun z hz => List.mem_range.mpr (hP z (hf.all z hz))
      simpa using this
    have hf1 : FndU P (addU f t) := ⟨nodup_addU hf.nd, fun p hp => by
      rcases mem_addU.mp hp with hp | rfl
      · exact hf.all p hp
      · exact ht _ List.mem_cons_self⟩
    obtain ⟨o5', e2⟩ := lb_inner h hS hP o4 ts (addU f t) (some (nD t)) hf1 fun x hx => ht x (List.mem_cons_of_mem _ hx)
    refine ⟨o5', ?_⟩
    rw [List.map_cons, forL, lb_step (by omega), bind_ok]
    exact e2
/-- a state that a reading leads to -/
def Rch (nx : List (List Nat)) (S L : Nat) (s : Nat) : Prop := s < S ∧ ∃ r : List Nat, (∀ l ∈ r, l < L) ∧ stR nx 0 r = s
theorem rch_suc (h : Tbl S L S nx) : ∀ p, Rch nx S L p → ∀ q ∈ rw1 nx p, Rch nx S L q := by
  rintro p ⟨hp, r, hr, rfl⟩ q hq
  obtain ⟨_, g2, g3⟩ := h.at hp
  refine ⟨g3 q hq, ?_⟩
  obtain ⟨l, hl, rfl⟩ := List.mem_iff_getElem.mp hq
  refine ⟨r ++ [l], fun x hx => ?_, ?_⟩
  · rcases List.mem_append.mp hx with hx | hx
    · exact hr x hx
    · rw [List.mem_singleton.mp hx]
      omega
  · rw [stR_app]
    show at1 (rw1 nx (stR nx 0 r)) l = _
    unfold at1
    rw [List.getD_eq_getElem?_getD, List.getElem?_eq_getElem hl]
    rfl
theorem row_at_l {B : Nat} (h : Tbl S L B nx) {s : Nat} (hs : s < S) : oidx (.lst (nx.map rD)) (nD s) = .ok (rD (rw1 nx s)) := oidx_l (by
  rw [List.getElem?_map, (h.at hs).1]
  rfl)
theorem lb_reach (h : Tbl S L S nx) (h0 : 0 < S) (hS : S ≤ 900) : ∃ f o4 o5, forL (forB (gnm 4) lbR) ((List.range S).map nD) (bE nx os [0] none none) = .ok (.next (bE nx os f o4 o5)) ∧ FndU (Rch nx S L) f ∧ (∀ s, Rch nx S L s → s ∈ f) := by
  obtain ⟨e', q, f, o4, o5, rfl, hf, hc, hl, hm⟩ : ∃ e', forL (forB (gnm 4) lbR) ((List.range S).map nD) (bE nx os [0] none none) = .ok (.next e') ∧ ∃ f o4 o5, e' = bE nx os f o4 o5 ∧ FndU (Rch nx S L) f ∧ CldU (rw1 nx) f (min S f.length) ∧ 0 ∈ f ∧ True := by
    refine forR_inv (fun k e => ∃ f o4 o5, e = bE nx os f o4 o5 ∧ FndU (Rch nx S L) f ∧ CldU (rw1 nx) f (min k f.length) ∧ 0 ∈ f ∧ True) ⟨[0], none, none, rfl, ⟨by simp, fun p hp => by rw [List.mem_singleton.mp hp]; exact ⟨h0, [], fun l hl => (nomatch hl), rfl⟩⟩, fun i p hi => by omega, by simp, trivial⟩ ?_
    rintro k _ hk ⟨f, o4, o5, rfl, hf, hc, hm, _⟩
    have hlen : f.length ≤ S := by
      have := hf.nd.length_le_of_subset (l₂ := List.range S) fun z hz => List.mem_range.mpr (hf.all z hz).1
      simpa using this
    have hq : tst (bin olt (var 4) (un blen (var 2))) (bE nx os f (some (nD k)) o5) = .ok (decide (k < f.length)) := by
      rw [tst_eq, bin_eq]
      show ((Res.ok (nD k) >>= fun x => blen (.lst (f.map nD)) >>= fun y => olt x y) >>= truthy) = _
      rw [bind_ok, blen_l, List.length_map, bind_ok]
      show olt (nD k) (nD f.length) >>= truthy = _
      rw [oltN]
      rfl
    show ∃ e', lbR (bE nx os f (some (nD k)) o5) = .ok (.next e') ∧ _
    unfold lbR
    rw [ite_eq, hq, bind_ok]
    by_cases hlt : k < f.length
    · rw [decide_eq_true hlt, if_pos rfl]
      have hx : f[k]? = some f[k] := List.getElem?_eq_getElem hlt
      have hr := hf.all _ (List.getElem_mem hlt)
      obtain ⟨o5', e2⟩ := lb_inner (os := os) h hS (P := Rch nx S L) (fun p hp => hp.1) (some (nD k)) (rw1 nx f[k]) f o5 hf (rch_suc h _ hr)
      obtain ⟨s1, s2⟩ := hf.step (rch_suc h) hr
      rw [show min k f.length = k by omega] at hc
      have s3 := hc.step hx
      obtain ⟨r, hr2⟩ := foldU_pre (rw1 nx f[k]) f
      refine ⟨_, ?_, (rw1 nx f[k]).foldl addU f, some (nD k), o5', rfl, s1, ?_, ?_, trivial⟩
      · have e3 : iseq (bin oidx (var 0) (bin oidx (var 2) (var 4))) (bE nx os f (some (nD k)) o5) = .ok ((rw1 nx f[k]).map nD) := by
          rw [iseq_eq, bin_eq, bin_eq]
          show ((Res.ok (Py.D.lst (nx.map rD)) >>= fun x => (oidx (.lst (f.map nD)) (nD k)) >>= fun y => oidx x y) >>= _) = _
          have e5 : oidx (.lst (f.map nD)) (nD k) = .ok (nD f[k]) := oidx_l (by rw [List.getElem?_map, hx]; rfl)
          rw [bind_ok, e5, bind_ok, row_at_l h hr.1]
          rfl
        rw [for_eq, e3, bind_ok]
        exact e2
      · rw [show min (k + 1) ((rw1 nx f[k]).foldl addU f).length = k + 1 by rw [hr2]; simp; omega]
        exact s3
      · rw [hr2]
        exact List.mem_append_left _ hm
    · rw [decide_eq_false hlt, if_neg (by decide)]
      exact ⟨_, rfl, f, some (nD k), o5, rfl, hf, by rw [show min (k + 1) f.length = min k f.length by omega]; exact hc, hm, trivial⟩
  refine ⟨f, o4, o5, q, hf, fun s hs => ?_⟩
  have hlen : f.length ≤ S := by
    have := hf.nd.length_le_of_subset (l₂ := List.range S) fun z hz => List.mem_range.mpr (hf.all z hz).1
    simpa using this
  rw [show min S f.length = f.length by omega] at hc
  obtain ⟨_, r, hr, rfl⟩ := hs
  have key : ∀ (r : List Nat) (s : Nat), s ∈ f → (∀ l ∈ r, l < L) → stR nx s r ∈ f := by
    intro r
    induction r with
    | nil => exact fun s hs _ => hs
    | cons l r ih =>
      intro s hs hl
      refine ih _ ?_ fun x hx => hl x (List.mem_cons_of_mem _ hx)
      obtain ⟨i, hi, rfl⟩ := List.mem_iff_getElem.mp hs
      refine hc i _ hi (List.getElem?_eq_getElem hi) _ (at1_mem ?_)
      rw [(h.at (hf.all _ (List.getElem_mem hi)).1).2.1]
      exact hl l List.mem_cons_self
  exact key r 0 hl hr
end
end Py.U
namespace Py.U
open PySem
/-! ### the law's own judging -/
section
variable {nx os : List (List Nat)} {S L : Nat}
theorem cell_l {B : Nat} {t : List (List Nat)} (h : Tbl S L B t) {o i j : Nat} {e : Env} {s l : Nat} (h0 : e[o]? = some (some (.lst (t.map rD)))) (hi : e[i]? = some (some (nD s))) (hj : e[j]? = some (some (nD l))) (hs : s < S) (hl : l < L) :
    bin oidx (bin oidx (var o) (var i)) (var j) e = .ok (nD (at1 (rw1 t s) l)) := by
  rw [bin_eq, bin_eq, var_eq h0, bind_ok, var_eq hi, bind_ok, row_at_l h hs, bind_ok, var_eq hj, bind_ok, cell_at h hs hl]
abbrev jE (nx os : List (List Nat)) (f : List Nat) (M : D) (o4 : Option D) (s l : Nat) (o7 o8 : Option D) : Env := [some (.lst (nx.map rD)), some (.lst (os.map rD)), some (.lst (f.map nD)), some M, o4, some (nD s), some (nD l), o7, o8]
def jA : SM := (asg (gnm 7) (bin oidx (bin oidx (var 0) (var 7)) (var 6)))
def jB : SM := (seq (Py.ite (tst (bin Py.one (bin oidx (bin oidx (var 1) (var 7)) (var 6)) (var 8))) (ret (cst (.bl true))) skip)
  (asg (gnm 7) (bin oidx (bin oidx (var 0) (var 7)) (var 6))))
def jL : SM := (seq (asg (gnm 7) (var 5))
  (seq (for_ (irng1 (un blen (var 2))) (gnm 4) jA)
  (seq (asg (gnm 8) (bin oidx (bin oidx (var 1) (var 7)) (var 6)))
  (for_ (irng1 (un blen (var 2))) (gnm 4) jB))))
theorem one_nn (a b : Nat) : Py.one (nD a) (nD b) = .ok (.bl (!decide (a = b))) := by
  unfold nD
  rw [one_ii]
  congr 3
  rw [Bool.eq_iff_iff]
  simp only [beq_iff_eq, decide_eq_true_eq]
  omega
theorem j_body (h : Tbl S L S nx) (ho : Tbl S L 2 os) {f : List Nat} {M : D} (hf : ∀ s, Rch nx S L s → s ∈ f) (hz : f.length ≤ 1000) {s l : Nat} (hs : Rch nx S L s) (hl : l < L) (o4 o7 o8 : Option D) :
    (¬ EvC nx os l s ∧ jL (jE nx os f M o4 s l o7 o8) = .ok (.ret (.bl true))) ∨ (EvC nx os l s ∧ ∃ o4' o7' o8', jL (jE nx os f M o4 s l o7 o8) = .ok (.next (jE nx os f M o4' s l o7' o8'))) := by
  have hsS := hs.1
  have hit : ∀ k, itR nx l k s ∈ f := fun k => by
    refine hf _ ⟨it_lt h hl k hsS, ?_⟩
    obtain ⟨r, hr, rfl⟩ := hs.2
    refine ⟨r ++ List.replicate k l, fun x hx => ?_, ?_⟩
    · rcases List.mem_append.mp hx with hx | hx
      · exact hr x hx
      · rw [(List.mem_replicate.mp hx).2]
        exact hl
    · rw [stR_app, stR_rep]
  have hw := ev_win (os := os) hit (Nat.le_refl f.length) (Nat.le_refl f.length)
  have hb : ∀ e : Env, e[2]? = some (some (.lst (f.map nD))) → irng1 (un blen (var 2)) e = .ok ((List.range f.length).map nD) := fun e he => irng_n (by rw [un_eq, var_eq he, bind_ok, blen_l, List.length_map]; rfl) hz
  obtain ⟨e1, q1, o4a, rfl⟩ : ∃ e', forL (forB (gnm 4) jA) ((List.range f.length).map nD) (jE nx os f M o4 s l (some (nD s)) o8) = .ok (.next e') ∧ ∃ o4, e' = jE nx os f M o4 s l (some (nD (itR nx l f.length s))) o8 := by
    refine forR_inv (fun k e => ∃ o4, e = jE nx os f M o4 s l (some (nD (itR nx l k s))) o8) ⟨o4, rfl⟩ ?_
    rintro k _ hk ⟨o4, rfl⟩
    refine ⟨_, ?_, some (nD k), rfl⟩
    show jA (jE nx os f M (some (nD k)) s l (some (nD (itR nx l k s))) o8) = _
    unfold jA
    rw [asg_eq, cell_l h (o := 0) rfl rfl rfl (it_lt h hl k hsS) hl, itR_succ]
    rfl
  have pre : jL (jE nx os f M o4 s l o7 o8) = for_ (irng1 (un blen (var 2))) (gnm 4) jB (jE nx os f M o4a s l (some (nD (itR nx l f.length s))) (some (nD (wR nx os l s f.length)))) := by
    unfold jL
    exact (asg_pass (d := nD s) rfl).trans ((for_pass (hb _ rfl) q1).trans (asg_pass (cell_l ho (o := 1) rfl rfl rfl (it_lt h hl _ hsS) hl)))
  rcases forR_or (b := forB (gnm 4) jB) (n := f.length) (fun k e => ∃ o4, e = jE nx os f M o4 s l (some (nD (itR nx l (f.length + k) s))) (some (nD (wR nx os l s f.length)))) (fun k d => d = .bl true ∧ wR nx os l s (f.length + k) ≠ wR nx os l s f.length) (fun k => wR nx os l s (f.length + k) = wR nx os l s f.length) (e := jE nx os f M o4a s l (some (nD (itR nx l f.length s))) (some (nD (wR nx os l s f.length)))) ⟨o4a, rfl⟩ (by
    rintro k _ hk ⟨o4, rfl⟩
    have c1 := cell_l (e := jE nx os f M (some (nD k)) s l (some (nD (itR nx l (f.length + k) s))) (some (nD (wR nx os l s f.length)))) ho (o := 1) (i := 7) (j := 6) rfl rfl rfl (it_lt h hl (f.length + k) hsS) hl
    have ht : tst (bin Py.one (bin oidx (bin oidx (var 1) (var 7)) (var 6)) (var 8)) (jE nx os f M (some (nD k)) s l (some (nD (itR nx l (f.length + k) s))) (some (nD (wR nx os l s f.length)))) = .ok (!decide (wR nx os l s (f.length + k) = wR nx os l s f.length)) := by
      rw [tst_eq, bin_eq, c1, bind_ok]
      show ((Py.one (nD (wR nx os l s (f.length + k))) (nD (wR nx os l s f.length))) >>= truthy) = _
      rw [one_nn]
      rfl
    show (∃ d, _ ∧ jB (jE nx os f M (some (nD k)) s l (some (nD (itR nx l (f.length + k) s))) (some (nD (wR nx os l s f.length)))) = .ok (.ret d)) ∨ _
    by_cases hq : wR nx os l s (f.length + k) = wR nx os l s f.length
    · rw [decide_eq_true hq] at ht
      refine .inr ⟨hq, _, ?_, some (nD k), rfl⟩
      show jB (jE nx os f M (some (nD k)) s l (some (nD (itR nx l (f.length + k) s))) (some (nD (wR nx os l s f.length)))) = _
      unfold jB
      rw [chk_pass ht, asg_eq, cell_l h (o := 0) rfl rfl rfl (it_lt h hl (f.length + k) hsS) hl, ← itR_succ]
      rfl
    · rw [decide_eq_false hq] at ht
      refine .inl ⟨_, ⟨rfl, hq⟩, ?_⟩
      unfold jB
      rw [seq_eq, ite_eq, ht]
      rfl) with ⟨k, d, b1, ⟨rfl, b2⟩, b3⟩ | ⟨b1, _, b2, o4', rfl⟩
  · refine .inl ⟨fun z => b2 (hw.mp z k b1), ?_⟩
    rw [pre, for_eq, hb _ rfl, bind_ok]
    exact b3
  · refine .inr ⟨hw.mpr b1, o4', some (nD (itR nx l (f.length + f.length) s)), some (nD (wR nx os l s f.length)), ?_⟩
    rw [pre, for_eq, hb _ rfl, bind_ok]
    exact b2
/-- some reached state's ring has unlike bits -/
def Brk (nx os : List (List Nat)) (L : Nat) : Prop := ∃ r l, (∀ x ∈ r, x < L) ∧ l < L ∧ ¬ EvC nx os l (stR nx 0 r)
theorem law_breaks_ok (h : Tbl S L S nx) (ho : Tbl S L 2 os) (h0 : 0 < S) (hS : S ≤ 900) (hL : L ≤ 8) : ∃ c : Bool, m_law_breaks [.lst (nx.map rD), .lst (os.map rD)] = .ok (.bl c) ∧ (c = true ↔ Brk nx os L) := by
  obtain ⟨f, o4, o5, q1, hf, hall⟩ := lb_reach (os := os) h h0 hS
  have hlen : f.length ≤ S := by
    have := hf.nd.length_le_of_subset (l₂ := List.range S) fun z hz => List.mem_range.mpr (hf.all z hz).1
    simpa using this
  have hn0 : un blen (bin oidx (var 0) (cst (.int 0))) = fun e => (bin oidx (var 0) (cst (nD 0)) e >>= blen) := rfl
  have hr : ∀ (f : List Nat) (o4 o5 o6 o7 o8 : Option D), irng1 (un blen (bin oidx (var 0) (cst (.int 0)))) [some (.lst (nx.map rD)), some (.lst (os.map rD)), some (.lst (f.map nD)), some (mtD f), o4, o5, o6, o7, o8] = .ok ((List.range L).map nD) := fun f o4 o5 o6 o7 o8 => by
    refine irng_n ?_ (by omega)
    show ((oidx (.lst (nx.map rD)) (nD 0)) >>= blen) = _
    rw [row_at_l h h0, bind_ok]
    show blen (.tup ((rw1 nx 0).map nD)) = _
    rw [blen_t, List.length_map, (h.at h0).2.1]
    rfl
  have row : ∀ s ∈ f, ∀ o4 o6 o7 o8, (∃ d, (d = .bl true ∧ ∃ l, l < L ∧ ¬ EvC nx os l s) ∧ for_ (irng1 (un blen (bin oidx (var 0) (cst (.int 0))))) (gnm 6) jL [some (.lst (nx.map rD)), some (.lst (os.map rD)), some (.lst (f.map nD)), some (mtD f), o4, some (nD s), o6, o7, o8] = .ok (.ret d)) ∨
      ((∀ l, l < L → EvC nx os l s) ∧ ∃ o4' o6' o7' o8', for_ (irng1 (un blen (bin oidx (var 0) (cst (.int 0))))) (gnm 6) jL [some (.lst (nx.map rD)), some (.lst (os.map rD)), some (.lst (f.map nD)), some (mtD f), o4, some (nD s), o6, o7, o8] = .ok (.next [some (.lst (nx.map rD)), some (.lst (os.map rD)), some (.lst (f.map nD)), some (mtD f), o4', some (nD s), o6', o7', o8'])) := fun s hs o4 o6 o7 o8 => by
    rw [for_eq, hr, bind_ok]
    rcases forR_or (b := forB (gnm 6) jL) (n := L) (fun _ e => ∃ o4 o6 o7 o8, e = [some (.lst (nx.map rD)), some (.lst (os.map rD)), some (.lst (f.map nD)), some (mtD f), o4, some (nD s), o6, o7, o8]) (fun l d => d = .bl true ∧ ¬ EvC nx os l s) (fun l => EvC nx os l s) (e := [some (.lst (nx.map rD)), some (.lst (os.map rD)), some (.lst (f.map nD)), some (mtD f), o4, some (nD s), o6, o7, o8]) ⟨o4, o6, o7, o8, rfl⟩ (by
      rintro l _ hl ⟨o4, o6, o7, o8, rfl⟩
      show (∃ d, _ ∧ jL (jE nx os f (mtD f) o4 s l o7 o8) = .ok (.ret d)) ∨ (_ ∧ ∃ e', jL (jE nx os f (mtD f) o4 s l o7 o8) = .ok (.next e') ∧ _)
      rcases j_body (M := mtD f) h ho hall (by omega) (hf.all s hs) hl o4 o7 o8 with ⟨a, b⟩ | ⟨a, o4', o7', o8', b⟩
      · exact .inl ⟨_, ⟨rfl, a⟩, b⟩
      · exact .inr ⟨a, _, b, _, _, _, _, rfl⟩) with ⟨l, d, b1, ⟨rfl, b2⟩, b3⟩ | ⟨b1, _, b2, o4', o6', o7', o8', rfl⟩
    · exact .inl ⟨_, ⟨rfl, l, b1, b2⟩, b3⟩
    · exact .inr ⟨b1, _, _, _, _, b2⟩
  have start : ∀ r : SM, (seq (asg (gnm 2) (lstE (argC (cst (.int 0)) argN))) (seq (asg (gnm 3) (dic1 false (cst (.int 0)) (cst (.bl true)))) (seq (for_ (irng1 (un blen (var 0))) (gnm 4) lbR) r))) [some (.lst (nx.map rD)), some (.lst (os.map rD)), none, none, none, none, none, none, none] = r (bE nx os f o4 o5) := fun r => by
    refine (asg_pass (d := .lst [nD 0]) rfl).trans ((asg_pass (d := mtD [0]) (dic1_eq rfl rfl rfl)).trans (for_pass (xs := (List.range S).map nD) ?_ q1))
    refine irng_n ?_ (by omega)
    show blen (.lst (nx.map rD)) = _
    rw [blen_l, List.length_map, h.len]
    rfl
  have done_ : m_law_breaks [.lst (nx.map rD), .lst (os.map rD)] = done (seq (for_ (iseq (var 2)) (gnm 5) (for_ (irng1 (un blen (bin oidx (var 0) (cst (.int 0))))) (gnm 6) jL)) (ret (cst (.bl false))) (bE nx os f o4 o5)) := by
    unfold m_law_breaks
    rw [fn2]
    unfold b__law_breaks
    exact congrArg done (start _)
  have hi : iseq (var 2) (bE nx os f o4 o5) = .ok (f.map nD) := rfl
  rcases forX_or (b := forB (gnm 5) (for_ (irng1 (un blen (bin oidx (var 0) (cst (.int 0))))) (gnm 6) jL)) nD (fun e => ∃ o4 o5 o6 o7 o8, e = [some (.lst (nx.map rD)), some (.lst (os.map rD)), some (.lst (f.map nD)), some (mtD f), o4, o5, o6, o7, o8]) (fun s d => d = .bl true ∧ ∃ l, l < L ∧ ¬ EvC nx os l s) (fun s => ∀ l, l < L → EvC nx os l s) f (bE nx os f o4 o5) ⟨o4, o5, none, none, none, rfl⟩ (by
    rintro s hs _ ⟨o4, o5, o6, o7, o8, rfl⟩
    rcases row s hs o4 o6 o7 o8 with ⟨d, a, b⟩ | ⟨a, o4', o6', o7', o8', b⟩
    · exact .inl ⟨d, a, b⟩
    · exact .inr ⟨a, _, b, _, _, _, _, _, rfl⟩) with ⟨s, hs, d, ⟨rfl, l, hl, b2⟩, b3⟩ | ⟨b1, _, b2, o4', o5', o6', o7', o8', rfl⟩
  · refine ⟨true, ?_, fun _ => ?_, fun _ => rfl⟩
    · rw [done_, for_ret hi b3]
      rfl
    · obtain ⟨_, r, hr, rfl⟩ := hf.all s hs
      exact ⟨r, l, hr, hl, b2⟩
  · refine ⟨false, ?_, fun z => (nomatch z), ?_⟩
    · rw [done_, for_pass hi b2]
      rfl
    · rintro ⟨r, l, hr, hl, hb⟩
      exact absurd (b1 _ (hall _ ⟨stR_lt h r h0 hr, r, hr, rfl⟩) l hl) hb
end
end Py.U
namespace Py.U
open PySem
/-! ### the numbers told -/
theorem nb_bits {n x : Nat} (hx : x < 2 ^ n) : nb (fun i => bt x i) n = x :=
  eq_of_bt (nb_lt fun p _ => bt_lt2 _ _) hx fun p hp => bt_nb (f := fun i => bt x i) (fun p _ => bt_lt2 _ _) hp
def llB : SM := (asg (gnm 2) (bin oadd (var 2) (bin oshl (bin oand (bin oshr (bin oidx (var 0) (var 3)) (var 1)) (cst (.int 1))) (var 3))))
theorem letter_ok {n x p : Nat} {z : Nat → Int} (hz : ∀ i, i < n → z i / 2 ^ p % 2 = (bt x i : Int)) (hx : x < 2 ^ n) (hn : n ≤ 1000) : m_law_letter [.tup ((List.range n).map fun i => .int (z i)), nD p] = .ok (nD x) := by
  obtain ⟨e1, q1, o3, rfl⟩ : ∃ e', forL (forB (gnm 3) llB) ((List.range n).map nD) [some (.tup ((List.range n).map fun i => .int (z i))), some (nD p), some (nD 0), none] = .ok (.next e') ∧ ∃ o3, e' = [some (.tup ((List.range n).map fun i => .int (z i))), some (nD p), some (nD (nb (fun i => bt x i) n)), o3] := by
    refine forR_inv (fun k e => ∃ o3, e = [some (.tup ((List.range n).map fun i => .int (z i))), some (nD p), some (nD (nb (fun i => bt x i) k)), o3]) ⟨none, rfl⟩ ?_
    rintro k _ hk ⟨o3, rfl⟩
    refine ⟨_, ?_, some (nD k), rfl⟩
    show llB [some (.tup ((List.range n).map fun i => .int (z i))), some (nD p), some (nD (nb (fun i => bt x i) k)), some (nD k)] = _
    have e1 : oidx (.tup ((List.range n).map fun i => .int (z i))) (nD k) = .ok (.int (z k)) := oidx_t (by rw [List.getElem?_map, List.getElem?_range hk]; rfl)
    have e2 : (oshr (.int (z k)) (nD p) >>= fun y => oand y (.int 1)) = .ok (nD (bt x k)) := by
      unfold nD
      rw [oshr_nat, bind_ok, oand1, hz k hk]
    unfold llB
    refine (show _ = (((Res.ok (nD (nb (fun i => bt x i) k)) >>= fun a => ((oidx (.tup ((List.range n).map fun i => .int (z i))) (nD k) >>= fun v => oshr v (nD p)) >>= fun y => oand y (.int 1)) >>= fun w => oshl w (nD k) >>= fun b => oadd a b) >>= fun d => Res.ok (Fl.next [some (.tup ((List.range n).map fun i => .int (z i))), some (nD p), some d, some (nD k)]))) from ?_).trans ?_
    · rw [asg_eq, bin_eq, bin_eq, bin_eq, bin_eq, bin_eq]
      show ((Res.ok (nD (nb (fun i => bt x i) k)) >>= fun a => (((oidx (.tup ((List.range n).map fun i => .int (z i))) (nD k) >>= fun v => oshr v (nD p)) >>= fun y => oand y (.int 1)) >>= fun w => oshl w (nD k)) >>= fun b => oadd a b) >>= fun d => _) = _
      rw [bind_ok, bind_ok, e1, bind_ok, e2, bind_ok, bind_ok, shl_bit (bt01 _ _) (by omega)]
      rfl
    · rw [bind_ok, e1, bind_ok, e2, bind_ok, shl_bit (bt01 _ _) (by omega), bind_ok, nadd]
      rfl
  rw [nb_bits hx] at q1
  have hb : irng1 (un blen (var 0)) [some (.tup ((List.range n).map fun i => .int (z i))), some (nD p), some (nD 0), none] = .ok ((List.range n).map nD) := irng_n (by
    show blen (.tup ((List.range n).map fun i => .int (z i))) = _
    rw [blen_t, List.length_map, List.length_range]
    rfl) hn
  unfold m_law_letter
  rw [fn2]
  unfold b__law_letter
  exact (congrArg done ((asg_pass (d := nD 0) rfl).trans ((for_pass hb q1).trans (rfl : _ = Res.ok (Fl.ret (nD x)))))).trans (done_ret _)
section
variable {nx os : List (List Nat)} {S n l : Nat} {r : List Nat}
/-- the letters that are read -/
def xp (r : List Nat) (l p : Nat) : Nat := if p < r.length then at1 r p else l
theorem xp_list (r : List Nat) (l : Nat) {k : Nat} (h : r.length ≤ k) : (List.range k).map (xp r l) = r ++ List.replicate (k - r.length) l := by
  refine List.ext_getElem (by simp; omega) fun i h1 h2 => ?_
  simp at h1
  by_cases hi : i < r.length
  · rw [List.getElem_append_left hi]
    simp [xp, hi, at1]
  · rw [List.getElem_append_right (by omega)]
    simp [xp, hi]
abbrev zD (n : Nat) (r : List Nat) (l : Nat) : D := .tup ((List.range n).map fun i => .int (zN r l i))
theorem let_ok (hr : ∀ x ∈ r, x < 2 ^ n) (hl : l < 2 ^ n) (hn : n ≤ 1000) (p : Nat) : m_law_letter [zD n r l, nD p] = .ok (nD (xp r l p)) := by
  refine letter_ok (fun i _ => ?_) ?_ hn
  · rw [zN_bit]
    unfold xp
    split <;> rfl
  · unfold xp
    split
    · rename_i h
      exact hr _ (at1_mem h)
    · exact hl
def neA : SM := (asg (gnm 3) (bin oidx (bin oidx (var 0) (var 3)) (call m_law_letter (argC (var 2) (argC (var 5) argN)))))
def neB : SM := (seq (Py.ite (tst (bin Py.one (bin oidx (bin oidx (var 1) (var 3)) (var 6)) (var 7))) (ret (cst (.bl true))) skip)
  (asg (gnm 3) (bin oidx (bin oidx (var 0) (var 3)) (var 6))))
abbrev nE (nx os : List (List Nat)) (n : Nat) (r : List Nat) (l s K : Nat) (o5 o6 o7 o8 : Option D) : Env := [some (.lst (nx.map rD)), some (.lst (os.map rD)), some (zD n r l), some (nD s), some (nD K), o5, o6, o7, o8]
theorem no_end_ok (h : Tbl S (2 ^ n) S nx) (ho : Tbl S (2 ^ n) 2 os) (h0 : 0 < S) (hS : S ≤ 900) (hn : n ≤ 1000) (hr : ∀ x ∈ r, x < 2 ^ n) (hrl : r.length ≤ 40) (hl : l < 2 ^ n) (hev : ¬ EvC nx os l (stR nx 0 r)) :
    m_law_no_end [.lst (nx.map rD), .lst (os.map rD), zD n r l] = .ok (.bl true) := by
  have lt := fun p => let_ok (n := n) hr hl hn p
  have xl : ∀ p, xp r l p < 2 ^ n := fun p => by
    unfold xp
    split
    · rename_i h
      exact hr _ (at1_mem h)
    · exact hl
  obtain ⟨e1, q1, o5, rfl⟩ : ∃ e', forL (forB (gnm 5) neA) ((List.range (42 + S)).map nD) (nE nx os n r l 0 (42 + S) none none none none) = .ok (.next e') ∧ ∃ o5, e' = nE nx os n r l (stR nx 0 ((List.range (42 + S)).map (xp r l))) (42 + S) o5 none none none := by
    refine forR_inv (fun k e => ∃ o5, e = nE nx os n r l (stR nx 0 ((List.range k).map (xp r l))) (42 + S) o5 none none none) ⟨none, rfl⟩ ?_
    rintro k _ hk ⟨o5, rfl⟩
    refine ⟨_, ?_, some (nD k), rfl⟩
    have hs : stR nx 0 ((List.range k).map (xp r l)) < S := stR_lt h _ h0 fun x hx => by
      obtain ⟨p, _, rfl⟩ := List.mem_map.mp hx
      exact xl p
    show neA (nE nx os n r l (stR nx 0 ((List.range k).map (xp r l))) (42 + S) (some (nD k)) none none none) = _
    unfold neA
    rw [asg_eq, bin_eq, bin_eq]
    show ((((Res.ok (Py.D.lst (nx.map rD))) >>= fun a => (Res.ok (nD (stR nx 0 ((List.range k).map (xp r l))))) >>= fun b => oidx a b) >>= fun a => m_law_letter [zD n r l, nD k] >>= fun b => oidx a b) >>= fun d => _) = _
    rw [bind_ok, bind_ok, row_at_l h hs, bind_ok, lt, bind_ok, cell_at h hs (xl k), List.range_succ, List.map_append, stR_app]
    rfl
  have key : stR nx 0 ((List.range (42 + S)).map (xp r l)) = itR nx l (42 + S - r.length) (stR nx 0 r) := by
    rw [xp_list r l (by omega), stR_app, stR_rep]
  rw [key] at q1
  have hs0 : stR nx 0 r < S := stR_lt h _ h0 hr
  generalize hK : 42 + S - r.length = K at *
  have hw := ring_ev (os := os) h hs0 hl (K := K) (by omega)
  have xl2 : xp r l (42 + S) = l := if_neg (by omega)
  have hm : ¬ ∀ k, k < S → wR nx os l (stR nx 0 r) (K + k) = wR nx os l (stR nx 0 r) K := fun z => hev (hw.mpr z)
  have fin : ∃ e8, forL (forB (gnm 8) neB) ((List.range S).map nD) (nE nx os n r l (itR nx l K (stR nx 0 r)) (42 + S) o5 (some (nD l)) (some (nD (wR nx os l (stR nx 0 r) K))) none) = .ok (.ret e8) ∧ e8 = .bl true := by
    rcases forR_or (b := forB (gnm 8) neB) (n := S) (fun k e => ∃ o8, e = nE nx os n r l (itR nx l (K + k) (stR nx 0 r)) (42 + S) o5 (some (nD l)) (some (nD (wR nx os l (stR nx 0 r) K))) o8) (fun k d => d = .bl true) (fun k => wR nx os l (stR nx 0 r) (K + k) = wR nx os l (stR nx 0 r) K) (e := nE nx os n r l (itR nx l K (stR nx 0 r)) (42 + S) o5 (some (nD l)) (some (nD (wR nx os l (stR nx 0 r) K))) none) ⟨none, rfl⟩ (by
      rintro k _ hk ⟨o8, rfl⟩
      have hit := it_lt h hl (K + k) hs0
      have c1 := cell_l (e := nE nx os n r l (itR nx l (K + k) (stR nx 0 r)) (42 + S) o5 (some (nD l)) (some (nD (wR nx os l (stR nx 0 r) K))) (some (nD k))) ho (o := 1) (i := 3) (j := 6) rfl rfl rfl hit hl
      have ht : tst (bin Py.one (bin oidx (bin oidx (var 1) (var 3)) (var 6)) (var 7)) (nE nx os n r l (itR nx l (K + k) (stR nx 0 r)) (42 + S) o5 (some (nD l)) (some (nD (wR nx os l (stR nx 0 r) K))) (some (nD k))) = .ok (!decide (wR nx os l (stR nx 0 r) (K + k) = wR nx os l (stR nx 0 r) K)) := by
        rw [tst_eq, bin_eq, c1, bind_ok]
        show ((Py.one (nD (wR nx os l (stR nx 0 r) (K + k))) (nD (wR nx os l (stR nx 0 r) K))) >>= truthy) = _
        rw [one_nn]
        rfl
      show (∃ d, _ ∧ neB (nE nx os n r l (itR nx l (K + k) (stR nx 0 r)) (42 + S) o5 (some (nD l)) (some (nD (wR nx os l (stR nx 0 r) K))) (some (nD k))) = .ok (.ret d)) ∨ _
      by_cases hq : wR nx os l (stR nx 0 r) (K + k) = wR nx os l (stR nx 0 r) K
      · rw [decide_eq_true hq] at ht
        refine .inr ⟨hq, _, ?_, some (nD k), rfl⟩
        show neB (nE nx os n r l (itR nx l (K + k) (stR nx 0 r)) (42 + S) o5 (some (nD l)) (some (nD (wR nx os l (stR nx 0 r) K))) (some (nD k))) = _
        unfold neB
        rw [chk_pass ht, asg_eq, cell_l h (o := 0) rfl rfl rfl hit hl, ← itR_succ]
        rfl
      · rw [decide_eq_false hq] at ht
        refine .inl ⟨_, rfl, ?_⟩
        unfold neB
        rw [seq_eq, ite_eq, ht]
        rfl) with ⟨k, d, b1, rfl, b3⟩ | ⟨b1, _⟩
    · exact ⟨_, b3, rfl⟩
    · exact absurd b1 hm
  obtain ⟨_, q3, rfl⟩ := fin
  have hb : ∀ e : Env, e[0]? = some (some (.lst (nx.map rD))) → un blen (var 0) e = .ok (nD S) := fun e he => by
    rw [un_eq, var_eq he, bind_ok, blen_l, List.length_map, h.len]
    rfl
  unfold m_law_no_end
  rw [fn3]
  unfold b__law_no_end
  refine (congrArg done ((asg_pass (d := nD 0) rfl).trans ((asg_pass (d := nD (42 + S)) ?_).trans ((for_pass (irng_n rfl (by omega)) q1).trans ((asg_pass (d := nD l) ?_).trans ((asg_pass (cell_l ho (o := 1) (i := 3) (j := 6) (s := itR nx l K (stR nx 0 r)) (l := l) rfl rfl rfl (it_lt h hl K hs0) hl)).trans (for_ret (irng_n (hb _ rfl) (by omega)) q3))))))).trans (done_ret _)
  · rw [bin_eq, hb _ rfl]
    show oadd (nD 42) (nD S) = _
    rw [nadd]
  · show m_law_letter [zD n r l, nD (42 + S)] = _
    rw [lt, xl2]
def rtB : SM := (seq (Py.ite (orT (notT (tst (un (oisi CS [.int]) (var 4)))) (tst (un (oisi CS [.bl]) (var 4)))) (ret (cst (.bl false))) skip)
  (Py.ite (orT (tst (bin olt (var 4) (un oneg (bin oshl (cst (.int 1)) (cst (.int 40)))))) (tst (bin ogt (var 4) (bin oshl (cst (.int 1)) (cst (.int 40)))))) (ret (cst (.bl false))) skip))
theorem right_ok (h : Tbl S (2 ^ n) S nx) (ho : Tbl S (2 ^ n) 2 os) (h0 : 0 < S) (hS : S ≤ 900) (hn : n ≤ 1000) (hr : ∀ x ∈ r, x < 2 ^ n) (hrl : r.length ≤ 40) (hl : l < 2 ^ n) (hev : ¬ EvC nx os l (stR nx 0 r)) :
    m_law_right [zD n r l, nD n, .lst (nx.map rD), .lst (os.map rD)] = .ok (.bl true) := by
  have q1 := no_end_ok h ho h0 hS hn hr hrl hl hev
  have q2 : oisi CS [.tup] (zD n r l) = .ok (.bl true) := rfl
  have q3 : blen (zD n r l) = .ok (nD n) := by
    show blen (.tup _) = _
    rw [blen_t, List.length_map, List.length_range]
    rfl
  have q4 : Py.one (nD n) (nD n) = .ok (.bl false) := by rw [one_nn]; simp
  have hsh : oshl (.int 1) (.int 40) = .ok (.int (2 ^ 40)) := oshl1 40 (by omega)
  rcases forX_or (b := forB (gnm 4) rtB) (fun i => D.int (zN r l i)) (fun e => ∃ o4, e = [some (zD n r l), some (nD n), some (.lst (nx.map rD)), some (.lst (os.map rD)), o4]) (fun _ _ => False) (fun _ => True) (List.range n) [some (zD n r l), some (nD n), some (.lst (nx.map rD)), some (.lst (os.map rD)), none] ⟨none, rfl⟩ (by
    rintro i hi _ ⟨o4, rfl⟩
    refine .inr ⟨trivial, _, ?_, some (.int (zN r l i)), rfl⟩
    obtain ⟨z1, z2⟩ := zN_rng hrl l i
    show rtB [some (zD n r l), some (nD n), some (.lst (nx.map rD)), some (.lst (os.map rD)), some (.int (zN r l i))] = _
    have c1 : oisi CS [.int] (.int (zN r l i)) = .ok (.bl true) := rfl
    have c2 : oisi CS [.bl] (.int (zN r l i)) = .ok (.bl false) := rfl
    have c3 : olt (.int (zN r l i)) (.int (-(2 ^ 40))) = .ok (.bl false) := by
      rw [olt_ii, decide_eq_false (by omega)]
    have c4 : ogt (.int (zN r l i)) (.int (2 ^ 40)) = .ok (.bl false) := by
      rw [ogt_ii, decide_eq_false (by omega)]
    have c5 : oneg (.int (2 ^ 40)) = .ok (.int (-(2 ^ 40))) := rfl
    unfold rtB
    generalize Py.D.int (zN r l i) = Z at *
    generalize zD n r l = ZD at *
    generalize Py.D.int (-(2 ^ 40)) = M1 at *
    generalize Py.D.int (2 ^ 40) = M2 at *
    simp [var, c1, c2, c3, c4, c5, hsh]) with ⟨i, _, d, hd, _⟩ | ⟨_, _, q5, o4, rfl⟩
  · exact hd.elim
  unfold m_law_right
  rw [fn4]
  unfold b__law_right
  refine (congrArg done ((chk_pass ?_).trans ((for_pass rfl q5).trans (?_ : _ = Res.ok (Fl.ret (.bl true)))))).trans (done_ret _)
  · generalize zD n r l = ZD at *
    generalize nD n = N at *
    simp [var, q2, q3, q4]
  · rw [ret_eq]
    show m_law_no_end [.lst (nx.map rD), .lst (os.map rD), zD n r l] >>= _ = _
    rw [q1]
    rfl
end
end Py.U
namespace Py.U
open PySem
/-! ### draws, statements that give back -/
def RetP (Q : D → Prop) (f : Fl) : Prop := ∃ d, f = .ret d ∧ Q d
theorem done_r {Q : D → Prop} {r : Res Fl} (h : Always (RetP Q) r) : Always Q (done r) := Always.done (h.mono (by
  rintro f ⟨d, rfl, hd⟩
  exact hd))
theorem ret_r {Q : D → Prop} {m : EM} {e : Env} (h : Always Q (m e)) : Always (RetP Q) (ret m e) := by
  rw [ret_eq]
  exact h.bind fun d hd => ⟨d, rfl, hd⟩
theorem ret_1 {Q : D → Prop} {m : EM} {e : Env} {d : D} (h : m e = .ok d) (hd : Q d) : Always (RetP Q) (ret m e) := ret_r (by rw [h]; exact hd)
theorem chk_p1 {P : Fl → Prop} {t : TM} {b r : SM} {e : Env} (ht : t e = .ok false) (k : Always P (r e)) : Always P (seq (Py.ite t b skip) r e) := by
  rw [chk_pass ht]
  exact k
theorem asg_d {P : Fl → Prop} {i : Nat} {m : EM} {r : SM} {e : Env} {d : D} (h : m e = .ok d) (k : Always P (r (e.set i (some d)))) : Always P (seq (asg (gnm i) m) r e) := by
  rw [asg_pass h]
  exact k
/-! ### the law -/
section
variable {nx os : List (List Nat)} {S n : Nat}
theorem core_ok (h1 : 1 ≤ n) (h3 : n ≤ 3) (h : Tbl S (2 ^ n) S nx) (ho : Tbl S (2 ^ n) 2 os) (h0 : 0 < S) (hS : S ≤ 40) :
    ∃ (c : Bool) (A : D), m_law_breaks [.lst (nx.map rD), .lst (os.map rD)] = .ok (.bl c) ∧ m_breaking_numbers [macD n nx os] = .ok A ∧ oisN A = .ok (.bl (!c)) ∧ onotN A = .ok (.bl c) ∧ (c = true → m_law_right [A, nD n, .lst (nx.map rD), .lst (os.map rD)] = .ok (.bl true)) := by
  have hp := pow3 h1 h3
  obtain ⟨c, e1, hc⟩ := law_breaks_ok h ho h0 (by omega) (by omega)
  rcases breaking_ok h1 h3 h ho h0 hS with ⟨b1, b2⟩ | ⟨r, l, b1, b2, b3, b4, b5⟩
  · have : c = false := by
      cases c with
      | false => rfl
      | true =>
        obtain ⟨r, l, hr, hl, hev⟩ := hc.mp rfl
        refine absurd ((ls_ev h ho h0 hr hl).mp (b2 _ ?_ l hl)) hev
        exact stR_lt (lsN_tbl h ho.len h0) r (by obtain ⟨_, _, _, gr, g4⟩ := fndM_ok h ho.len h0; rw [g4]; simp) hr
    subst this
    exact ⟨false, .non, e1, b1, rfl, rfl, fun z => nomatch z⟩
  · have : c = true := hc.mpr ⟨r, l, b2, b4, b5⟩
    subst this
    exact ⟨true, _, e1, b1, rfl, rfl, fun _ => right_ok h ho h0 (by omega) (by omega) b2 b3 b4 b5⟩
theorem keeps_ok {R A : D} {c : Bool} (h : m_breaking_numbers [R] = .ok A) (h2 : oisN A = .ok (.bl (!c))) : m_keeps_integers [R] = .ok (.bl (!c)) := by
  unfold m_keeps_integers
  rw [fn1]
  unfold b_keeps_integers
  simp [var, h, h2]
theorem one_refl {d : D} (h : plain d = true) : Py.one d d = .ok (.bl false) := by
  unfold Py.one
  rw [h, eqv_refl 64 d h]
  rfl
theorem rD_pl (k : Nat) (r : List Nat) : pl (k + 1) (rD r) = true := by
  show ((r.map nD).all (pl k)) = true
  rw [List.all_eq_true]
  intro d hd
  obtain ⟨a, _, rfl⟩ := List.mem_map.mp hd
  cases k <;> rfl
theorem tab_plain (t : List (List Nat)) : plain (.tup (t.map rD)) = true := by
  show ((t.map rD).all (pl 63)) = true
  rw [List.all_eq_true]
  intro d hd
  obtain ⟨a, _, rfl⟩ := List.mem_map.mp hd
  exact rD_pl 62 a
def akB : SM := (seq (asg (gnm 8) (call m_breaking_numbers (argC (var 4) argN)))
  (seq (Py.ite (andT (tst (var 5)) (notT (tst (call m_law_right (argC (var 8) (argC (var 1) (argC (var 2) (argC (var 3) argN)))))))) (ret (cst (.bl false))) skip)
  (seq (Py.ite (andT (notT (tst (var 5))) (tst (un onotN (var 8)))) (ret (cst (.bl false))) skip)
  (asg (gnm 4) (call m_Machine (argC (var 1) (argC (un btuple (var 2)) (argC (un btuple (var 3)) argN))))))))
theorem rest_ok (h1 : 1 ≤ n) (h3 : n ≤ 3) (h : Tbl S (2 ^ n) S nx) (ho : Tbl S (2 ^ n) 2 os) (h0 : 0 < S) (hS : S ≤ 40) : Always (RetP (fun d => d = .bl true)) ((seq (asg (gnm 4) (call m_Machine (argC (var 1) (argC (un blist (var 2)) (argC (un blist (var 3)) argN)))))
  (seq (asg (gnm 5) (call m_law_breaks (argC (var 2) (argC (var 3) argN))))
  (seq (asg (gnm 6) (call m_keeps_integers (argC (var 4) argN)))
  (seq (Py.ite (orT (andT (tst (var 5)) (tst (bin onotB (var 6) (cst (.bl false))))) (andT (notT (tst (var 5))) (tst (bin onotB (var 6) (cst (.bl true)))))) (ret (cst (.bl false))) skip)
  (seq (for_ (irng1 (cst (.int 2))) (gnm 7) akB)
  (seq (Py.ite (orT (tst (bin Py.one (un (oattr ["Machine"] "inputs") (var 4)) (var 1))) (orT (tst (bin Py.one (un (oattr ["Machine"] "nexts") (var 4)) (un btuple (var 2)))) (tst (bin Py.one (un (oattr ["Machine"] "outs") (var 4)) (un btuple (var 3)))))) (ret (cst (.bl false))) skip)
  (ret (bin oeq (bin oisB (call m_keeps_integers (argC (var 4) argN)) (cst (.bl true))) (un onb (var 5)))))))))) [some poolD, some (nD n), some (.lst (nx.map rD)), some (.lst (os.map rD)), none, none, none, none, none]) := by
  obtain ⟨c, A, e1, e2, e3, e4, e5⟩ := core_ok h1 h3 h ho h0 hS
  have k1 := keeps_ok e2 e3
  have m1 := mach_made h1 h3 h ho h0 (by omega)
  have m2 := mach_made_tt h1 h3 h ho h0 (by omega)
  have a1 := mac_in n nx os
  have a2 := mac_nx n nx os
  have a3 := mac_os n nx os
  have p1 := one_refl (tab_plain nx)
  have p2 := one_refl (tab_plain os)
  have p3 : Py.one (nD n) (nD n) = .ok (.bl false) := by rw [one_nn]; simp
  have bl : ∀ xs, blist (.lst xs) = .ok (.lst xs) := fun _ => rfl
  generalize macD n nx os = R at *
  generalize nx.map rD = NX at *
  generalize os.map rD = OS at *
  generalize nD n = N at *
  refine asg_d (d := R) (by simp [var, m1, bl]) (asg_d (d := .bl c) (by simp [var, e1]) (asg_d (d := .bl !c) (by simp [var, k1]) (chk_p1 ?_ ?_)))
  · cases c <;> simp [var, onotB]
  have st : ∀ y o7 o8, forB (gnm 7) akB y [some poolD, some N, some (.lst NX), some (.lst OS), some R, some (.bl c), some (.bl !c), o7, o8] = .ok (.next [some poolD, some N, some (.lst NX), some (.lst OS), some R, some (.bl c), some (.bl !c), some y, some A]) := fun y o7 o8 => by
    show akB [some poolD, some N, some (.lst NX), some (.lst OS), some R, some (.bl c), some (.bl !c), some y, o8] = _
    unfold akB
    refine (asg_pass (d := A) (by simp [var, e2])).trans ?_
    show seq _ _ [some poolD, some N, some (.lst NX), some (.lst OS), some R, some (.bl c), some (.bl !c), some y, some A] = _
    cases c with
    | false => simp [var, e4, m2]
    | true => simp [var, e4, m2, e5 rfl]
  have lp : forL (forB (gnm 7) akB) [.int 0, .int 1] [some poolD, some N, some (.lst NX), some (.lst OS), some R, some (.bl c), some (.bl !c), none, none] = .ok (.next [some poolD, some N, some (.lst NX), some (.lst OS), some R, some (.bl c), some (.bl !c), some (.int 1), some A]) := by
    rw [forL, st, bind_ok]
    show forL (forB (gnm 7) akB) [.int 1] _ = _
    rw [forL, st, bind_ok]
    rfl
  show Always _ (seq _ _ [some poolD, some N, some (.lst NX), some (.lst OS), some R, some (.bl c), some (.bl !c), none, none])
  rw [for_pass (xs := [.int 0, .int 1]) rfl lp]
  refine chk_p1 (by simp [var, a1, a2, a3, p1, p2, p3]) (ret_1 (d := .bl true) ?_ rfl)
  cases c <;> simp [var, k1, oisB, oeq, plain, pl, eqv]
end
theorem ask_in : Always (fun d => ∃ n : Nat, d = nD n ∧ 1 ≤ n ∧ n ≤ 3) (bin oidx (tupE (argC (cst (.int 1)) (argC (cst (.int 1)) (argC (cst (.int 2)) (argC (cst (.int 3)) argN))))) (call m_law_pick (argC (var 0) (argC (cst (.int 4)) argN))) [some poolD, none, none, none, none, none, none, none, none]) := by
  rw [bin_eq]
  show Always _ (Res.ok (Py.D.tup [.int 1, .int 1, .int 2, .int 3]) >>= fun x => call m_law_pick (argC (var 0) (argC (cst (.int 4)) argN)) [some poolD, none, none, none, none, none, none, none, none] >>= fun y => oidx x y)
  rw [bind_ok]
  refine (pickc (Q := fun d => ∃ i : Nat, i < 4 ∧ d = nD i) 4 rfl rfl rfl (by omega) (by omega) fun i hi => ⟨i, hi, rfl⟩).bind ?_
  rintro _ ⟨i, hi, rfl⟩
  have : i = 0 ∨ i = 1 ∨ i = 2 ∨ i = 3 := by omega
  rcases this with rfl | rfl | rfl | rfl
  · exact ⟨1, rfl, by omega, by omega⟩
  · exact ⟨1, rfl, by omega, by omega⟩
  · exact ⟨2, rfl, by omega, by omega⟩
  · exact ⟨3, rfl, by omega, by omega⟩
theorem ask_ok : Always (fun d => d = .bl true) (m_law_ask [poolD]) := by
  unfold m_law_ask
  rw [fn1]
  refine done_r ?_
  unfold b__law_ask
  refine asg_a ask_in ?_
  rintro _ ⟨n, rfl, n1, n3⟩
  have hp := pow3 n1 n3
  have hp0 : 0 < 2 ^ n := Nat.pow_pos (by decide)
  refine seq_a (I := fun e => ∃ (S : Nat) (nx os : List (List Nat)), 0 < S ∧ S ≤ 40 ∧ Tbl S (2 ^ n) S nx ∧ Tbl S (2 ^ n) 2 os ∧ e = [some poolD, some (nD n), some (.lst (nx.map rD)), some (.lst (os.map rD)), none, none, none, none, none]) ?_ ?_
  · rw [asg_eq]
    refine Always.bind (Q := MachT (2 ^ n)) ?_ ?_
    · have e1 : call m_law_machine (argC (var 0) (argC (bin oshl (cst (.int 1)) (var 1)) argN)) [some poolD, some (nD n), none, none, none, none, none, none, none] = m_law_machine [poolD, nD (2 ^ n)] := by
        have q := shl_nD (n := n) (by omega)
        generalize nD (2 ^ n) = P at *
        generalize nD n = N at *
        simp [var, q]
      show Always _ (call m_law_machine (argC (var 0) (argC (bin oshl (cst (.int 1)) (var 1)) argN)) [some poolD, some (nD n), none, none, none, none, none, none, none])
      rw [e1]
      exact mach_ok hp0 (by omega)
    · rintro _ ⟨S, nx, os, rfl, h0, hS, h1, h2⟩
      exact ⟨_, rfl, S, nx, os, h0, hS, h1, h2, rfl⟩
  rintro _ ⟨S, nx, os, h0, hS, h1, h2, rfl⟩
  exact rest_ok n1 n3 h1 h2 h0 hS
/-- the script's cells as a pool -/
theorem allI_map : ∀ ns : List Int, (allI (ns.map .int)).isSome = true
  | [] => rfl
  | n :: ns => by
    have ih := allI_map ns
    show ((allI (ns.map .int)).map (n :: ·)).isSome = true
    cases h : allI (ns.map .int) with
    | none => rw [h] at ih; cases ih
    | some r => rfl
theorem law_true (ns : List Int) (h : ns.length ≤ 63) : Always (fun d => d = .bl true) (m_law [.lst (ns.map .int)]) := by
  have hc : cut (ns.map Py.D.int) none (some (63 : Int)) = ns.map Py.D.int := by
    show ((ns.map Py.D.int).drop 0).take (min 63 (ns.map Py.D.int).length - 0) = _
    rw [List.drop_zero, List.take_of_length_le (by rw [List.length_map]; omega)]
  have e1 : lcE (iseq (slc (var 0) none (some (cst (.int 63))))) [2] (gnm 2) yes (un bint (var 2)) [some (.lst (ns.map .int)), none, none] = .ok (.lst (ns.map .int)) := by
    refine lc_mapI (k := Py.D.int) (h := Py.D.int) (ys := ns) ?_ (le_sz (by omega)) fun z _ => ⟨[some (.lst (ns.map .int)), none, some (.int z)], rfl, rfl⟩
    show ((Res.ok (Py.D.lst (cut (ns.map Py.D.int) none (some 63)))) >>= _) = _
    rw [hc]
    rfl
  unfold m_law
  rw [fn1]
  unfold b_law
  refine done_r ?_
  refine asg_d (d := poolD) ?_ ?_
  · show (lstE _ _ >>= mkpF) = _
    rw [lstE_eq, argC_eq]
    show ((lcE (iseq (slc (var 0) none (some (cst (.int 63))))) [2] (gnm 2) yes (un bint (var 2)) [some (.lst (ns.map .int)), none, none] >>= _) >>= _) >>= mkpF = _
    rw [e1]
    show mkpF (.lst [.lst (ns.map .int), .int 0, .int 0, .int 1]) = _
    show (if (allI (ns.map .int)).isSome = true ∧ _ then _ else _) = _
    rw [if_pos ⟨allI_map ns, by omega, by omega, by omega⟩]
  · rw [thru_eq]
    refine Always.noexc (ret_r ?_)
    exact ask_ok
end Py.U
open PySem PySem.W PySem.Calls PyProof.Rows
theorem PySem.Challenge.cw_onlycarries_k58_breaking_numbers_holds : PySem.Challenge.rw_onlycarries_k58_breaking_numbers.Holds := by
  w_on; o_law
  refine HandSHeadRun.head_any (r := OpenLaw.row PySem.Challenge.rw_onlycarries_k58_breaking_numbers) (q := view (OpenLaw.row PySem.Challenge.rw_onlycarries_k58_breaking_numbers).prog [46]) (H := Py.hkY) (ob := Py.ob) (M := 8000) (loose := Py.lo) (d := HandSHeadRun.topDef (OpenLaw.row PySem.Challenge.rw_onlycarries_k58_breaking_numbers).prog 46) (kwd := []) Py.ob_eq
    (by kernel_rfl) (fun s => by kernel_rfl) Py.run (by kernel_rfl) (by kernel_rfl) (by kernel_rfl) (by rfl) (by first | assumption | decide +kernel) (by decide +kernel) ⟨rfl, rfl, rfl, rfl, rfl, by decide +kernel⟩ ?hw ?hc
  case hw => w_witness2
  case hc =>
    refine Py.walk_ofW (l := PySem.Challenge.rw_onlycarries_k58_breaking_numbers) (n := 63) (k := 11) (x := "script") (CX := fun w => L2N.CX PySem.Challenge.pw_onlycarries_k58_breaking_numbers w) rfl (by decide) (by kernel_rfl) ⟨rfl, by decide, by decide⟩ ?F (fun _ _ _ _ _ z => Py.cx_none z)
    intro w mg fa h Y G hmg0
    obtain ⟨K, KX, c, m, xq⟩ := Y
    have hmg : mg ("law" : PySem.Str) = some (.ref fa) := by
      have e : (HandSHeadRun.topDef (OpenLaw.row PySem.Challenge.rw_onlycarries_k58_breaking_numbers).prog 46).name = ("law" : PySem.Str) := by kernel_rfl
      rw [← e]
      exact hmg0
    have YY : Py.Fs (PySem.Challenge.rw_onlycarries_k58_breaking_numbers).prog w K mg := ⟨⟨c, m, h, KX, G⟩, xq, by kernel_rfl, by kernel_rfl⟩
    have e2 := hmg.symm.trans (YY.glo 42)
    cases e2
    obtain ⟨fd, hb, hF⟩ := Py.law_is (P := (PySem.Challenge.rw_onlycarries_k58_breaking_numbers).prog) YY
    exact ⟨K, fd, _, KX, hb, fun H a ns hl _ hS => Py.sp_lawA YY.noL (Py.U.law_true ns hl) hS, fun base _ _ => hF base⟩
