import PyProof.Rows.All
import Wide.All
import OpenK.AllK
import Wide.FinOn
import HandS.ForMost
import HandS.WideBits
import KE.BitLaws
import HandS.Exc
import HandS.TryOnly
import HandS.ExcOwn
import HandS.WordsExc
import HandS.WordsList
import HandS.IsInst
import HandS.ExcCtx
import HandS.Hot
import HandS.HotCalls
import HandS.ExcIs
import HandS.ExcField
import HandS.Defaults
import HandS.Flow
import HandS.Style
import HandS.TupAny
import HandS.HeadHook1
import HandS.HeadHook2
import HandS.Dict
import KE.KeyNested
import HandS.Small
import HandS.WordsDict
import KE.KDictKeyed
import PyProof.Rows.SeqRoads
import HandS.CallSlots
import KE.GoesEnum
import HandS.HeadEnd
import HandS.HeadHook3
import HandS.Head3
import HandS.Zip
import HandS.ExcInit
import HandS.Nested
import KE.KExcSuper
import KE.KExcIs
import HandS.TupMul
import HandS.Conv
import HandS.Star
import KE.KDictDisplayH
import OpenK.KOps
import KE.KDictWalk
import KE.KDictZip
import KE.GoesMore
import KE.KStar
import HandS.ExcValue
import HandS.SlotsOwn
import KE.SortData
import HandS.DictComp
import KE.KDictList
import HandS.FStr
import HandS.Text
import HandS.Iter
import KE.DatumOrd
import HandS.Head0
import HandS.Head1
import HandS.Head2
import KE.IntBitsLaws
import PySem.Challenge.RW_onlycarries_k25_plain_rows
set_option Elab.async false
set_option linter.all false
set_option maxRecDepth 100000
set_option maxHeartbeats 0
/-! Plain data of a small Python, and what its expressions, statements and defs compute: total Lean functions, no program in sight. -/
namespace Py
open PySem L2
inductive D where
  | non | bl (b : Bool) | int (i : Int) | str (s : String)
  | tup (xs : List D) | lst (xs : List D) | dic (t : Bool) (kvs : List (D × D)) | ins (c : String) (fs : List (String × D)) | drw (q : Bool ⊕ (Nat × List Int))
  deriving Inhabited
/-- what code computes; pick n k: some number i up to n is drawn -/
inductive Res (α : Type) where
  | ok (a : α) | exc (c : String) (fs : List (String × D)) | stuck | pick (n : Nat) (k : Nat → Res α)
def Res.bindR {α β : Type} (f : α → Res β) : Res α → Res β
  | .ok a => f a | .exc c fs => .exc c fs | .stuck => .stuck | .pick n k => .pick n fun i => Res.bindR f (k i)
@[reducible] def Res.bind {α β : Type} (r : Res α) (f : α → Res β) : Res β := match r with
  | .ok a => f a | .exc c fs => .exc c fs | .stuck => .stuck | .pick n k => .pick n fun i => Res.bindR f (k i)
instance : Monad Res := { pure := Res.ok, bind := Res.bind }
@[simp] theorem bind_ok {α β : Type} (a : α) (f : α → Res β) : (Res.ok a >>= f) = f a := rfl
@[simp] theorem bind_exc {α β : Type} (c : String) (fs) (f : α → Res β) : ((Res.exc c fs : Res α) >>= f) = .exc c fs := rfl
@[simp] theorem bind_stuck {α β : Type} (f : α → Res β) : ((Res.stuck : Res α) >>= f) = .stuck := rfl
theorem bindR_eq {α β : Type} (f : α → Res β) (r : Res α) : Res.bindR f r = (r >>= f) := by cases r <;> rfl
@[simp] theorem bind_pick {α β : Type} (n : Nat) (k : Nat → Res α) (f : α → Res β) : (Res.pick n k >>= f) = .pick n fun i => k i >>= f := by
  show Res.pick n (fun i => Res.bindR f (k i)) = _
  congr 1
  funext i
  exact bindR_eq f (k i)
@[simp] theorem pure_ok {α : Type} (a : α) : (pure a : Res α) = .ok a := rfl
def noexc {α : Type} : Res α → Res α
  | .ok a => .ok a | .exc _ _ => .stuck | .stuck => .stuck | .pick n k => .pick n fun i => noexc (k i)
@[simp] theorem noexc_ok {α : Type} (a : α) : noexc (.ok a : Res α) = .ok a := rfl
@[simp] theorem noexc_pick {α : Type} (n : Nat) (k : Nat → Res α) : noexc (.pick n k) = .pick n fun i => noexc (k i) := rfl
/-- what is done of an error -/
def Res.catch_ {α : Type} (h : String → List (String × D) → Res α) : Res α → Res α
  | .ok a => .ok a | .exc c fs => h c fs | .stuck => .stuck | .pick n k => .pick n fun i => Res.catch_ h (k i)
@[simp] theorem catch_ok {α : Type} (h : String → List (String × D) → Res α) (a : α) : Res.catch_ h (.ok a) = .ok a := rfl
@[simp] theorem catch_exc {α : Type} (h : String → List (String × D) → Res α) (c : String) (fs) : Res.catch_ h (.exc c fs) = h c fs := rfl
@[simp] theorem catch_stuck {α : Type} (h : String → List (String × D) → Res α) : Res.catch_ h (.stuck : Res α) = .stuck := rfl
@[simp] theorem catch_pick {α : Type} (h : String → List (String × D) → Res α) (n : Nat) (k : Nat → Res α) : Res.catch_ h (.pick n k) = .pick n fun i => Res.catch_ h (k i) := rfl
def SZ : Nat := 16777216
abbrev Env := List (Option D)
abbrev EM := Env → Res D
abbrev TM := Env → Res Bool
abbrev AM := Env → Res (List D)
inductive Fl where
  | next (e : Env) | ret (d : D) | brk (e : Env) | cnt (e : Env)
abbrev SM := Env → Res Fl
/-! ### data -/
def chk (n : Nat) (d : D) : Res D := if n ≤ SZ then .ok d else .stuck
theorem chk_ok {n : Nat} {d : D} (h : n ≤ SZ) : chk n d = .ok d := if_pos h
/-- no dict or instance within, at most n deep: == walks it -/
def pl : Nat → D → Bool
  | _, .non => true
  | _, .bl _ => true
  | _, .int _ => true
  | _, .str _ => true
  | n + 1, .tup xs => xs.all (pl n)
  | n + 1, .lst xs => xs.all (pl n)
  | _, _ => false
def plain (d : D) : Bool := pl 64 d
/-- no object but a text -/
def flatD : D → Bool
  | .non => true
  | .bl _ => true
  | .int _ => true
  | .str _ => true
  | _ => false
def b2i (b : Bool) : Int := if b then 1 else 0
/-- == of plain data -/
def eqv : D → D → Bool
  | .non, .non => true
  | .bl a, .bl b => a == b
  | .bl a, .int j => b2i a == j
  | .int i, .bl b => i == b2i b
  | .int i, .int j => i == j
  | .str a, .str b => a == b
  | .tup xs, .tup ys => eqvL xs ys
  | .lst xs, .lst ys => eqvL xs ys
  | _, _ => false
where eqvL : List D → List D → Bool
  | [], [] => true
  | x :: xs, y :: ys => eqv x y && eqvL xs ys
  | _, _ => false
inductive Ty where
  | non | bl | int | str | tup | lst | dic | cls (c : String)
  deriving DecidableEq
def isI (t : Ty) : D → Bool
  | .non => decide (t = .non)
  | .bl _ => decide (t = .bl) || decide (t = .int)
  | .int _ => decide (t = .int)
  | .str _ => decide (t = .str)
  | .tup _ => decide (t = .tup)
  | .lst _ => decide (t = .lst)
  | .dic _ _ => decide (t = .dic)
  | .ins c _ => decide (t = .cls c)
  | .drw _ => decide (t = .dic)
/-! ### operators -/
def oadd : D → D → Res D
  | .int i, .int j => .ok (.int (i + j))
  | .str a, .str b => if a.length + b.length ≤ SZ then .ok (.str (a ++ b)) else .stuck
  | .tup a, .tup b => if a.length + b.length ≤ SZ then .ok (.tup (a ++ b)) else .stuck
  | .lst a, .lst b => if a.length + b.length ≤ SZ then .ok (.lst (a ++ b)) else .stuck
  | _, _ => .stuck
def osub : D → D → Res D
  | .int i, .int j => .ok (.int (i - j))
  | _, _ => .stuck
def B64 : Nat := 18446744073709551616
def omul : D → D → Res D
  | .int i, .int j => if i.natAbs < B64 ∨ j.natAbs < B64 then .ok (.int (i * j)) else .stuck
  | _, _ => .stuck
def ofdiv : D → D → Res D
  | .int i, .int j => if 0 < j ∧ j < 1073741824 then .ok (.int (i / j)) else .stuck
  | _, _ => .stuck
def omod : D → D → Res D
  | .int i, .int j => if 0 < j then .ok (.int (i % j)) else .stuck
  | _, _ => .stuck
def opow : D → D → Res D
  | .int i, .int j => if 0 ≤ j ∧ j ≤ 1000000 ∧ i.natAbs < 18446744073709551616 then .ok (.int (i ^ j.toNat)) else .stuck
  | _, _ => .stuck
def oshl : D → D → Res D
  | .int i, .int j => if 0 ≤ j ∧ (Builtin.Int.intBits i : Int) + j ≤ 134217728 then .ok (.int (i * 2 ^ j.toNat)) else .stuck
  | _, _ => .stuck
def oshr : D → D → Res D
  | .int i, .int j => if 0 ≤ j then .ok (.int (i / 2 ^ j.toNat)) else .stuck
  | _, _ => .stuck
def oand : D → D → Res D
  | .int i, .int j => .ok (.int (Builtin.bitAnd i j))
  | _, _ => .stuck
def oor : D → D → Res D
  | .int i, .int j => .ok (.int (Builtin.bitOr i j))
  | _, _ => .stuck
def oxor : D → D → Res D
  | .int i, .int j => .ok (.int (Builtin.bitXor i j))
  | _, _ => .stuck
def oneg : D → Res D
  | .int i => .ok (.int (-i))
  | _ => .stuck
def opt : Option D → Res D
  | some d => .ok d
  | none => .stuck
def tyOf : D → Ty
  | .non => .non | .bl _ => .bl | .int _ => .int | .str _ => .str | .tup _ => .tup | .lst _ => .lst | .dic _ _ => .dic | .ins c _ => .cls c | .drw _ => .dic
/-- an instance's class is among these, so is a class that is asked for -/
def inCs (cs : List String) : Ty → Bool
  | .cls c => cs.contains c
  | .dic => false
  | _ => true
def oisi (cs : List String) (ts : List Ty) (d : D) : Res D := if inCs cs (tyOf d) && ts.all (fun t => inCs cs t && decide (t ≠ .non)) then .ok (.bl (ts.any fun t => isI t d)) else .stuck
def oattr (cs : List String) (f : String) : D → Res D
  | .ins c fs => if cs.contains c then opt (fs.lookup f) else .stuck
  | _ => .stuck
def olt : D → D → Res D
  | .int i, .int j => .ok (.bl (decide (i < j)))
  | _, _ => .stuck
def ole : D → D → Res D
  | .int i, .int j => .ok (.bl (decide (i ≤ j)))
  | _, _ => .stuck
def ogt : D → D → Res D
  | .int i, .int j => .ok (.bl (decide (j < i)))
  | _, _ => .stuck
def oge : D → D → Res D
  | .int i, .int j => .ok (.bl (decide (j ≤ i)))
  | _, _ => .stuck
def oeq (x y : D) : Res D := if plain x && plain y then .ok (.bl (eqv x y)) else .stuck
def one (x y : D) : Res D := if plain x && plain y then .ok (.bl (!eqv x y)) else .stuck
/-- x in ys -/
def mem (x : D) : List D → Bool
  | [] => false
  | y :: r => eqv y x || mem x r
/-- numbers, texts, None and tuples of such, at most n deep -/
def hk : Nat → D → Bool
  | _, .non => true
  | _, .bl _ => true
  | _, .int _ => true
  | _, .str _ => true
  | n + 1, .tup xs => xs.all (hk n)
  | _, _ => false
/-- a key of a dict; t: its keys are tuples -/
def keyOk : Bool → D → Bool
  | false, .int _ => true
  | false, .str _ => true
  | true, .tup xs => hk 8 (.tup xs)
  | _, _ => false
def find (k : D) : List (D × D) → Option D
  | [] => none
  | (a, v) :: r => if eqv a k then some v else find k r
/-- d[k] = v -/
def putD (k v : D) : List (D × D) → List (D × D)
  | [] => [(k, v)]
  | (a, x) :: r => if eqv a k then (a, v) :: r else (a, x) :: putD k v r
def oin : D → D → Res D
  | x, .lst ys => if flatD x && ys.all flatD then .ok (.bl (mem x ys)) else .stuck
  | x, .tup ys => if flatD x && ys.all flatD then .ok (.bl (mem x ys)) else .stuck
  | x, .dic t kvs => if keyOk t x then .ok (.bl (find x kvs).isSome) else .stuck
  | _, _ => .stuck
def onotin : D → D → Res D
  | x, .lst ys => if flatD x && ys.all flatD then .ok (.bl (!mem x ys)) else .stuck
  | x, .tup ys => if flatD x && ys.all flatD then .ok (.bl (!mem x ys)) else .stuck
  | x, .dic t kvs => if keyOk t x then .ok (.bl (!(find x kvs).isSome)) else .stuck
  | _, _ => .stuck
def isNon : D → Bool
  | .non => true
  | _ => false
def oisN (x : D) : Res D := .ok (.bl (isNon x))
def truthy : D → Res Bool
  | .non => .ok false
  | .bl b => .ok b
  | .int i => .ok (i != 0)
  | .str s => if s.length ≤ SZ then .ok (s.length != 0) else .stuck
  | .tup xs => .ok (!xs.isEmpty)
  | .lst xs => .ok (!xs.isEmpty)
  | _ => .stuck
def onb : D → Res D
  | .bl k => .ok (.bl (!k))
  | _ => .stuck
/-! ### subscripts -/
def oidx : D → D → Res D
  | .lst xs, .int i => opt (atI xs i)
  | .tup xs, .int i => opt (atI xs i)
  | .str s, .int i => if s.length ≤ SZ then opt ((atI s.toList i).map fun c => .str (String.ofList [c])) else .stuck
  | .dic t kvs, k => if keyOk t k then opt (find k kvs) else .stuck
  | _, _ => .stuck
/-- the items from lo up to hi -/
def cut {α : Type} (xs : List α) (lo hi : Option Int) : List α := (xs.drop (HT.sIx xs.length 0 lo)).take (HT.sIx xs.length xs.length hi - HT.sIx xs.length 0 lo)
def oslc : D → Option Int → Option Int → Res D
  | .lst xs, lo, hi => .ok (.lst (cut xs lo hi))
  | .tup xs, lo, hi => .ok (.tup (cut xs lo hi))
  | .str s, lo, hi => if s.length ≤ SZ then .ok (.str (String.ofList (cut s.toList lo hi))) else .stuck
  | _, _, _ => .stuck
/-! ### a table of the module: texts to numbers -/
def onothas (tab : List (String × Int)) : D → Res D
  | .str s => .ok (.bl (!(tab.lookup s).isSome))
  | _ => .stuck
def olook (tab : List (String × Int)) : D → Res D
  | .str s => opt ((tab.lookup s).map D.int)
  | _ => .stuck
/-! ### built-in calls -/
def blen : D → Res D
  | .lst xs => .ok (.int xs.length)
  | .tup xs => .ok (.int xs.length)
  | .str s => if s.length ≤ SZ then .ok (.int s.length) else .stuck
  | .dic _ kvs => .ok (.int kvs.length)
  | _ => .stuck
def bint : D → Res D
  | .int i => .ok (.int i)
  | .bl b => .ok (.int (b2i b))
  | _ => .stuck
def btuple : D → Res D
  | .lst xs => .ok (.tup xs)
  | .tup xs => .ok (.tup xs)
  | _ => .stuck
def blist : D → Res D
  | .lst xs => .ok (.lst xs)
  | .tup xs => .ok (.lst xs)
  | _ => .stuck
def intsOf : List D → Option (List Int)
  | [] => some []
  | .int i :: r => (intsOf r).map (i :: ·)
  | _ :: _ => none
def boolsOf : List D → Option (List Bool)
  | [] => some []
  | .bl i :: r => (boolsOf r).map (i :: ·)
  | _ :: _ => none
def bsum : D → Res D
  | .lst xs => match intsOf xs with | some is => .ok (.int is.sum) | none => .stuck
  | _ => .stuck
def ball : D → Res D
  | .lst xs => match boolsOf xs with | some bs => .ok (.bl (bs.all id)) | none => .stuck
  | _ => .stuck
def bmax2 : D → D → Res D
  | .int i, .int j => .ok (.int (if j > i then j else i))
  | _, _ => .stuck
def bmin2 : D → D → Res D
  | .int i, .int j => .ok (.int (if j < i then j else i))
  | _, _ => .stuck
/-! ### expressions -/
def var (i : Nat) : EM := fun e => match e[i]? with | some (some d) => .ok d | _ => .stuck
def cst (d : D) : EM := fun _ => .ok d
def un (f : D → Res D) (a : EM) : EM := fun e => a e >>= f
def bin (f : D → D → Res D) (a b : EM) : EM := fun e => a e >>= fun x => b e >>= fun y => f x y
def argN : AM := fun _ => .ok []
def argC (a : EM) (r : AM) : AM := fun e => a e >>= fun x => r e >>= fun xs => .ok (x :: xs)
def tupE (a : AM) : EM := fun e => a e >>= fun xs => chk xs.length (.tup xs)
def lstE (a : AM) : EM := fun e => a e >>= fun xs => chk xs.length (.lst xs)
/-- {} and {k: v} -/
def dic0 (t : Bool) : EM := fun _ => .ok (.dic t [])
def dic1 (t : Bool) (a b : EM) : EM := fun e => a e >>= fun k => b e >>= fun v => if keyOk t k then .ok (.dic t [(k, v)]) else .stuck
/-- x and y, x or y as values, x a truth -/
def andE (a b : EM) : EM := fun e => a e >>= fun x => match x with | .bl true => b e | .bl false => .ok (.bl false) | _ => .stuck
def orE (a b : EM) : EM := fun e => a e >>= fun x => match x with | .bl false => b e | .bl true => .ok (.bl true) | _ => .stuck
/-- a < b < c -/
def chain (f g : D → D → Res D) (a b c : EM) : EM := fun e => a e >>= fun x => b e >>= fun y => f x y >>= fun z => match z with
  | .bl true => c e >>= fun u => g y u
  | .bl false => .ok (.bl false)
  | _ => .stuck
def tst (a : EM) : TM := fun e => a e >>= truthy
def andT (a b : TM) : TM := fun e => a e >>= fun x => if x then b e else .ok false
def orT (a b : TM) : TM := fun e => a e >>= fun x => if x then .ok true else b e
def notT (a : TM) : TM := fun e => a e >>= fun x => .ok (!x)
def ifE (t : TM) (a b : EM) : EM := fun e => t e >>= fun x => if x then a e else b e
def slc (a : EM) (lo hi : Option EM) : EM := fun e => a e >>= fun x => bnd lo e >>= fun i => bnd hi e >>= fun j => oslc x i j
where bnd : Option EM → Env → Res (Option Int)
  | none, _ => .ok none
  | some m, e => m e >>= fun d => match d with | .int i => .ok (some i) | _ => .stuck
def call (f : List D → Res D) (a : AM) : EM := fun e => a e >>= f
/-! what is walked -/
abbrev IM := Env → Res (List D)
def iseq (a : EM) : IM := fun e => a e >>= fun x => match x with | .lst xs => .ok xs | .tup xs => .ok xs | _ => .stuck
def B62 : Nat := 4611686018427387904
def rngL (lo hi : Int) : List D := (List.range (hi - lo).toNat).map fun i => .int (lo + (i : Nat))
def irng1 (a : EM) : IM := fun e => a e >>= fun x => match x with
  | .int n => if n.natAbs < B62 then .ok (rngL 0 n) else .stuck
  | _ => .stuck
def enumL (n : Nat) : List D → List D
  | [] => []
  | d :: r => .tup [.int n, d] :: enumL (n + 1) r
def ienum (a : EM) : IM := fun e => iseq a e >>= fun xs => .ok (enumL 0 xs)
def seqOf : D → Option (Bool × List D)
  | .lst xs => some (false, xs)
  | .tup xs => some (true, xs)
  | _ => none
/-- list(range(..)) -/
def lrngE (it : IM) : EM := fun e => it e >>= fun xs => if xs.length ≤ 1000000 then .ok (.lst xs) else .stuck
/-- .., *a, .. -/
def argS (a : EM) (r : AM) : AM := fun e => a e >>= fun x => match seqOf x with
  | some (_, xs) => r e >>= fun ys => .ok (xs ++ ys)
  | none => .stuck
/-! targets -/
def lift {α : Type} : Option α → Res α
  | some a => .ok a
  | none => .stuck
@[simp] theorem lift_some {α : Type} (a : α) : lift (some a) = .ok a := rfl
@[simp] theorem lift_none {α : Type} : lift (none : Option α) = .stuck := rfl
abbrev GM := D → Env → Option Env
def gnm (i : Nat) : GM := fun d e => some (e.set i (some d))
def gtupL : List GM → List D → Env → Option Env
  | [], [], e => some e
  | g :: gs, d :: ds, e => (g d e).bind (gtupL gs ds)
  | _, _, _ => none
def gtup (gs : List GM) : GM := fun d e => match d with | .tup xs => gtupL gs xs e | _ => none
/-! comprehensions -/
def wipe (e : Env) : List Nat → Env
  | [] => e
  | i :: r => (wipe e r).set i none
def compL (f : D → Res (Option D)) : List D → Res (List D)
  | [] => .ok []
  | x :: xs => f x >>= fun o => compL f xs >>= fun ys => .ok (match o with | some y => y :: ys | none => ys)
def yes : TM := fun _ => .ok true
def compF (vs : List Nat) (g : GM) (t : TM) (elt : EM) (e : Env) (x : D) : Res (Option D) :=
  lift (g x (wipe e vs)) >>= fun e1 => t e1 >>= fun b => if b then elt e1 >>= fun y => .ok (some y) else .ok none
def lcE (it : IM) (vs : List Nat) (g : GM) (t : TM) (elt : EM) : EM := fun e => it e >>= fun xs =>
  noexc (compL (compF vs g t elt e) xs) >>= fun ys => chk xs.length (.lst ys)
/-! ### statements -/
def seq (a b : SM) : SM := fun e => a e >>= fun f => match f with | .next e' => b e' | r => .ok r
def skip : SM := fun e => .ok (.next e)
def asg (g : GM) (m : EM) : SM := fun e => m e >>= fun d => lift (g d e) >>= fun e' => .ok (.next e')
def aug (i : Nat) (f : D → D → Res D) (m : EM) : SM := fun e => var i e >>= fun x => m e >>= fun y => f x y >>= fun z => .ok (.next (e.set i (some z)))
def drop (m : EM) : SM := fun e => m e >>= fun _ => .ok (.next e)
def ret (m : EM) : SM := fun e => m e >>= fun d => .ok (.ret d)
def retN : SM := fun _ => .ok (.ret .non)
def ite (t : TM) (a b : SM) : SM := fun e => t e >>= fun x => if x then a e else b e
def brk : SM := fun e => .ok (.brk e)
def cnt : SM := fun e => .ok (.cnt e)
def forL (body : D → Env → Res Fl) : List D → Env → Res Fl
  | [], e => .ok (.next e)
  | x :: xs, e => body x e >>= fun fl => match fl with
    | .next e' => forL body xs e'
    | .cnt e' => forL body xs e'
    | .brk e' => .ok (.next e')
    | .ret d => .ok (.ret d)
def forB (g : GM) (body : SM) (x : D) (e : Env) : Res Fl := lift (g x e) >>= body
def for_ (it : IM) (g : GM) (body : SM) : SM := fun e => it e >>= fun xs => forL (forB g body) xs e
/-- a name's own list grows -/
def app (i : Nat) (m : EM) : SM := fun e => var i e >>= fun l => match l with
  | .lst xs => m e >>= fun d => if xs.length < SZ then .ok (.next (e.set i (some (.lst (xs ++ [d]))))) else .stuck
  | _ => .stuck
/-- xs[j] = v of a name's own list or dict -/
def setL (i : Nat) (j m : EM) : SM := fun e => var i e >>= fun l => match l with
  | .lst xs => m e >>= fun d => j e >>= fun k => match k with
    | .int z => match ixN xs.length z with
      | some n => .ok (.next (e.set i (some (.lst (xs.set n d)))))
      | none => .stuck
    | _ => .stuck
  | .dic t kvs => m e >>= fun d => j e >>= fun k => if keyOk t k && decide (kvs.length < SZ) then .ok (.next (e.set i (some (.dic t (putD k d kvs))))) else .stuck
  | _ => .stuck
/-- x.extend(y) of a name's own list -/
def ext (i : Nat) (m : EM) : SM := fun e => var i e >>= fun l => match l with
  | .lst xs => m e >>= fun d => match d with
    | .lst ys => if xs.length + ys.length ≤ SZ then .ok (.next (e.set i (some (.lst (xs ++ ys))))) else .stuck
    | _ => .stuck
  | _ => .stuck
def putF (f : String) (d : D) : List (String × D) → List (String × D)
  | [] => [(f, d)]
  | (g, x) :: r => if g = f then (f, d) :: r else (g, x) :: putF f d r
/-- self.f = v in an __init__ -/
def setF (i : Nat) (cs : List String) (f : String) (m : EM) : SM := fun e => var i e >>= fun o => match o with
  | .ins c fs => if cs.contains c ∧ fs.length < 1000 then m e >>= fun d => .ok (.next (e.set i (some (.ins c (putF f d fs))))) else .stuck
  | _ => .stuck
/-- raise C(..) -/
def rais (c : String) (ns : List String) (a : AM) : SM := fun e => a e >>= fun ds => if ds.length = ns.length then .exc c (ns.zip ds).reverse else .stuck
def thru (m : SM) : SM := fun e => noexc (m e)
/-! ### errors that are caught -/
/-! ### defs -/
def doneF (fl : Fl) : Res D := match fl with
  | .next _ => .ok .non
  | .ret d => .ok d
  | .brk _ => .stuck
  | .cnt _ => .stuck
def done (r : Res Fl) : Res D := r >>= doneF
/-- a def of p parameters and n names -/
def fn (p n : Nat) (body : SM) (ds : List D) : Res D := if ds.length = p then done (body (ds.map some ++ List.replicate (n - p) none)) else .stuck
def madeF (cls : String) (fl : Fl) : Res D := match fl with
  | .next (some (.ins c fs) :: _) => .ok (.ins c fs)
  | _ => .stuck
def made (p n : Nat) (cls : String) (body : SM) (ds : List D) : Res D := if ds.length + 1 = p then
  body ((some (.ins cls []) :: ds.map some) ++ List.replicate (n - p) none) >>= madeF cls else .stuck
end Py
namespace Py
open PySem PySem.Spec PyProof.Rows L2
open He (Fa DefD Tab FnW)
open He
abbrev Frag := PySem.W.Frag
def ca (K : Frag) (c : String) : Addr := He.ga K (Str.ofString c)
def tyNames : List String := ["NoneType", "bool", "int", "str", "tuple", "list", "dict"]
def kitB (K : Frag) (cs : List String) : Bool :=
  cs.all fun c => (He.Fa.cls (Str.ofString c)).ok K
    && (decide (PySem.W.findIn K (.ref (ca K c)) "__class__" = some (some (.builtin "object.__class__")))
    && (decide (PySem.W.specialIn K (.builtin "object.__class__") "__get__" = some (some (.builtin "getset_descriptor.__get__")))
    && (decide (PySem.W.takesIn K (.builtin "object.__class__") = some true)
    && (decide (PySem.W.mroIn K (ca K c) (.type "object") = some true)
    && (cs.all (fun d => decide (PySem.W.kitOne K (.ref (ca K c)) (.ref (ca K d)) = some (decide (c = d))))
    && tyNames.all fun T => decide (PySem.W.kitOne K (.ref (ca K c)) (.type T) = some false) && decide (PySem.W.kitOne K (.type T) (.ref (ca K c)) = some false))))))
def notList (o : Obj) : Bool := match o.cls with
  | .type c => !(decide (c = "list"))
  | _ => true
def noL (K : Frag) : Bool := K.all fun q => notList q.2
def attB (cs : List String) (f : String) (K : Frag) : Bool := cs.all fun c => (Fa.cls (Str.ofString c)).ok K && (Fa.noat (Str.ofString c) (Str.ofString f)).ok K
def kitC (cs : List String) (K : Frag) : Bool := kitB K cs
def tabB (x : String) (tab : List (String × Int)) (K : Frag) : Bool := He.valsB K (He.ga K (Str.ofString x)) (tab.map fun q => (Str.ofString q.1, He.Dv.int q.2))
def tabT (x : String) (tab : List (String × Int)) : Tab := (fun K => He.ga K (Str.ofString x), tab.map fun q => Str.ofString q.1)
def dvOf : D → Option He.Dv
  | .non => some .non
  | .bl b => some (.bl b)
  | .int i => some (.int i)
  | .str s => some (.str (Str.ofString s))
  | _ => none
def dvsOf : List D → List He.Dv
  | [] => []
  | d :: r => (dvOf d).getD .non :: dvsOf r
def tupC (x : String) (ds : List D) (K : Frag) : Bool := He.tupB K (Str.ofString x) (dvsOf ds)
def fnWx (K : Frag) (p : Str × Option Str) : FnW := match K.lookup (He.fAd K p) with
  | some ⟨_, _, .func fd, _⟩ => some (fd.name, fd.qualname, fd.params, fd.body, fd.scope, fd.globals, [], fd.builtins)
  | _ => none
def cloB (file : Str) (c : String) (q : Str) (K : Frag) : Bool := match K.lookup (He.ma K (ca K c) "__init__") with
  | some ⟨_, _, .func fd, _⟩ => (match fd.code, fd.closure with
    | .ref cda, [(y, cc)] => decide (y = ("__class__" : Str)) && (decide (fd.defaults = .none) && (PySem.W.codeIn K (.ref cda) q &&
      ((match K.lookup cc with | some ⟨_, _, .cell (some (.ref D)), _⟩ => decide (D = ca K c) | _ => false) &&
        (match K.lookup cda with | some ⟨_, _, .fields vs, _⟩ => (match (vs[2]? : Option Value) with | some (.str z _) => decide (z = file) | _ => false) | _ => false))))
    | _, _ => false)
  | _ => false
def oexB (c : String) (K : Frag) : Bool := match K.lookup (ca K c) with
  | some ⟨.type "type", _, .cls cd, sl⟩ => (match cd.mro, sl.toList with
    | .ref C' :: bm, [_, _, _, _, some (.builtin n), _] => decide (C' = ca K c) && (decide (n = "ValueError.__new__") && (cd.hasDict && (!cd.hasDel && PySem.HandSPX.refsVE bm)))
    | _, _ => false)
  | _ => false
def errB (file : Str) (c : String) (q : Str) (fs : List String) (K : Frag) : Bool := cloB file c q K && (oexB c K &&
  (decide (PySem.W.findIn K (.ref (ca K c)) "__setattr__" = some (some (.builtin "object.__setattr__"))) && (decide (PySem.W.subIn K (.ref (ca K c)) (.type "BaseException") = some true) &&
  (decide (PySem.W.typeIn K (.ref (ca K c)) = some (.type "type")) && (PySem.W.keepIn K (.ref (ca K c)) &&
  (decide (PySem.W.ks_superIn K (ca K c) (ca K c) "__init__" = some (some (.builtin "ValueError.__init__"))) && (decide (PySem.W.subIn K (.ref (ca K c)) (.type "ValueError") = some true) &&
  (decide (PySem.W.mroIn K (ca K c) (.ref (ca K c)) = some true) && (decide (PySem.W.nsIn K cStatics "thirdparty.any" = some none) &&
  (decide (PySem.W.findIn K (.ref (ca K c)) "__init__" = some (some (.ref (He.ma K (ca K c) "__init__")))) && (decide (PySem.W.typeIn K (.ref (He.ma K (ca K c) "__init__")) = some (.type "function")) &&
  fs.all fun f => decide (PySem.W.findIn K (.ref (ca K c)) (Str.ofString f) = some none))))))))))))
abbrev AlY : Type := AlT × Bool × List FnW
def obsY (more : Frag → Bool) (fa : List Fa) (fn xf : List DefD) (ts : List Tab) (K : Frag) : AlY := (obsT fa fn ts K, more K, xf.map fun d => fnWx K d.at_)
def valY (fn xf : List DefD) (ts : List Tab) (w : World) : AlY := (valT fn ts w, true, xf.map DefD.val)
def frcN {α : Type} (n : Nat) (k : Nat → α) : α := match n with
  | 0 => k 0
  | m + 1 => k (m + 1)
def visE {α : Type} (k : Nat → List Addr → α) : List Addr → Nat → List Addr → α
  | [], m, acc => k m acc
  | b :: r, m, acc => frcN b fun b => match Nat.land (Nat.shiftRight m b) 1 with
    | 0 => frcN (Nat.lor m (Nat.shiftLeft 1 b)) fun m2 => visE k r m2 (b :: acc)
    | _ + 1 => visE k r m acc
def levE {α : Type} (g : Addr → Option Obj) (k : Nat → List Addr → α) : List Addr → Nat → List Addr → α
  | [], m, acc => k m acc
  | a :: r, m, acc => match g a with
    | some o => visE (fun m acc => levE g k r m acc) (refsD o) m acc
    | none => levE g k r m acc
def bfsE (g : Addr → Option Obj) : Nat → List Addr → Nat → List Addr → List Addr
  | 0, fr, _, all => all ++ fr
  | n + 1, fr, m, all => levE g (fun m new => bfsE g n new.reverse m (all ++ fr)) fr m []
def asE (g : Addr → Option Obj) (n : Nat) : List Addr := bfsE g n [mainGlobals] (Nat.shiftLeft 1 mainGlobals) []
def obsYG (n : Nat) (more : Frag → Bool) (fa : List Fa) (fn xf : List DefD) (ts : List Tab) (g : Addr → Option Obj) : AlY := obsY more fa fn xf ts (frG g (cStatics :: asE g n))
def hookY (n : Nat) (more : Frag → Bool) (fa : List Fa) (fn xf : List DefD) (ts : List Tab) : PySem.W.Hook where
  α := AlY
  obs := fun s => obsYG n more fa fn xf ts s.heap.get?
  val := fun w => valY fn xf ts w
  says := fun w h => ∃ K : PySem.W.Frag, K.In h ∧ SaysT fa fn ts w K ∧ more K = true ∧ (xf.map fun d => fnWx K d.at_) = xf.map DefD.val
  of := fun w s e => by
    have e1 : obsY more fa fn xf ts (frG s.heap.get? (cStatics :: asE s.heap.get? n)) = valY fn xf ts w := e
    unfold obsY valY at e1
    obtain ⟨e2, e3⟩ := Prod.mk.inj e1
    obtain ⟨e4, e5⟩ := Prod.mk.inj e3
    exact ⟨_, frG_in, e2, e4, e5⟩
  keeps := fun _ _ _ ⟨K, hK, c, m⟩ k => ⟨K, PySem.W.Frag.In.keeps hK k, c, m⟩
end Py
namespace Py
open PySem PySem.Spec PyProof.Rows L2
abbrev CS : List String := ["Row", "PlainMaker"]
def tab_SIZES : List (String × Int) := [("zero", 0), ("ones", 0), ("not", 1), ("and", 2), ("or", 2), ("xor", 2), ("shift", 1), ("minus", 1), ("add", 2), ("sub", 2)]
def tup_CARRIES : List D := [.str "shift", .str "minus", .str "add", .str "sub"]
def top (i : Nat) : Stmt := PySem.Challenge.pw_onlycarries_k25_plain_rows.main.body.getD i (.Pass ⟨0, 0, 0, 0⟩)
abbrev st_as_tuple : Stmt := top 4
abbrev sc_as_tuple : Scope := defScope st_as_tuple
abbrev N_as_tuple : List Str := ["value"]
abbrev d_as_tuple : He.DefD := ⟨("as_tuple", none), "as_tuple", "as_tuple", defArgs st_as_tuple, defBody st_as_tuple, sc_as_tuple, [], []⟩
abbrev st_is_integer : Stmt := top 1
abbrev sc_is_integer : Scope := defScope st_is_integer
abbrev N_is_integer : List Str := ["value"]
abbrev d_is_integer : He.DefD := ⟨("is_integer", none), "is_integer", "is_integer", defArgs st_is_integer, defBody st_is_integer, sc_is_integer, [], []⟩
abbrev st_is_below : Stmt := top 5
abbrev sc_is_below : Scope := defScope st_is_below
abbrev N_is_below : List Str := ["value", "limit"]
abbrev d_is_below : He.DefD := ⟨("is_below", none), "is_below", "is_below", defArgs st_is_below, defBody st_is_below, sc_is_below, [], []⟩
abbrev st_are_values : Stmt := top 15
abbrev sc_are_values : Scope := defScope st_are_values
abbrev N_are_values : List Str := ["numbers", "many", "number"]
abbrev d_are_values : He.DefD := ⟨("are_values", none), "are_values", "are_values", defArgs st_are_values, defBody st_are_values, sc_are_values, [], []⟩
abbrev st_is_count_deed : Stmt := top 16
abbrev sc_is_count_deed : Scope := defScope st_is_count_deed
abbrev N_is_count_deed : List Str := ["value", "many", "modulus", "rest", "parts"]
abbrev d_is_count_deed : He.DefD := ⟨("is_count_deed", none), "is_count_deed", "is_count_deed", defArgs st_is_count_deed, defBody st_is_count_deed, sc_is_count_deed, [], []⟩
abbrev st_is_deed : Stmt := top 17
abbrev sc_is_deed : Scope := defScope st_is_deed
abbrev N_is_deed : List Str := ["value", "many"]
abbrev d_is_deed : He.DefD := ⟨("is_deed", none), "is_deed", "is_deed", defArgs st_is_deed, defBody st_is_deed, sc_is_deed, [], []⟩
abbrev st_is_inputs : Stmt := top 3
abbrev sc_is_inputs : Scope := defScope st_is_inputs
abbrev N_is_inputs : List Str := ["value"]
abbrev d_is_inputs : He.DefD := ⟨("is_inputs", none), "is_inputs", "is_inputs", defArgs st_is_inputs, defBody st_is_inputs, sc_is_inputs, [], []⟩
abbrev st_Row_init : Stmt := inClass (top 20) 0
abbrev sc_Row_init : Scope := defScope st_Row_init
abbrev N_Row_init : List Str := ["self", "inputs", "deeds", "out", "kept", "place", "deed"]
abbrev d_Row_init : He.DefD := ⟨("Row", some "__init__"), "__init__", "Row.__init__", defArgs st_Row_init, defBody st_Row_init, sc_Row_init, [], []⟩
abbrev st__law_pick : Stmt := top 28
abbrev sc__law_pick : Scope := defScope st__law_pick
abbrev N__law_pick : List Str := ["pool", "many", "digit", "cell"]
abbrev d__law_pick : He.DefD := ⟨("_law_pick", none), "_law_pick", "_law_pick", defArgs st__law_pick, defBody st__law_pick, sc__law_pick, [], []⟩
abbrev st__law_deed : Stmt := top 29
abbrev sc__law_deed : Scope := defScope st__law_deed
abbrev N__law_deed : List Str := ["pool", "values", "names", "name", "one", "prime", "told", "parts", "k"]
abbrev d__law_deed : He.DefD := ⟨("_law_deed", none), "_law_deed", "_law_deed", defArgs st__law_deed, defBody st__law_deed, sc__law_deed, [], []⟩
abbrev st__law_weight : Stmt := top 30
abbrev sc__law_weight : Scope := defScope st__law_weight
abbrev N__law_weight : List Str := ["deed"]
abbrev d__law_weight : He.DefD := ⟨("_law_weight", none), "_law_weight", "_law_weight", defArgs st__law_weight, defBody st__law_weight, sc__law_weight, [], []⟩
abbrev st__law_deeds : Stmt := top 31
abbrev sc__law_deeds : Scope := defScope st__law_deeds
abbrev N__law_deeds : List Str := ["pool", "inputs", "size", "room", "deeds", "seen", "k", "deed"]
abbrev d__law_deeds : He.DefD := ⟨("_law_deeds", none), "_law_deeds", "_law_deeds", defArgs st__law_deeds, defBody st__law_deeds, sc__law_deeds, [], []⟩
abbrev st__law_number : Stmt := top 37
abbrev sc__law_number : Scope := defScope st__law_number
abbrev N__law_number : List Str := ["value", "below"]
abbrev d__law_number : He.DefD := ⟨("_law_number", none), "_law_number", "_law_number", defArgs st__law_number, defBody st__law_number, sc__law_number, [], []⟩
abbrev st__law_plain_deed : Stmt := top 38
abbrev sc__law_plain_deed : Scope := defScope st__law_plain_deed
abbrev N__law_plain_deed : List Str := ["deed", "values", "rest", "value"]
abbrev d__law_plain_deed : He.DefD := ⟨("_law_plain_deed", none), "_law_plain_deed", "_law_plain_deed", defArgs st__law_plain_deed, defBody st__law_plain_deed, sc__law_plain_deed, [], []⟩
abbrev st__law_plain : Stmt := top 39
abbrev sc__law_plain : Scope := defScope st__law_plain
abbrev N__law_plain : List Str := ["answer", "inputs", "deeds", "k", "carries", "counts", "deed"]
abbrev d__law_plain : He.DefD := ⟨("_law_plain", none), "_law_plain", "_law_plain", defArgs st__law_plain, defBody st__law_plain, sc__law_plain, [], []⟩
abbrev st__law_mark : Stmt := top 33
abbrev sc__law_mark : Scope := defScope st__law_mark
abbrev N__law_mark : List Str := ["name", "mark", "one", "two", "total"]
abbrev d__law_mark : He.DefD := ⟨("_law_mark", none), "_law_mark", "_law_mark", defArgs st__law_mark, defBody st__law_mark, sc__law_mark, [], []⟩
abbrev st__law_step : Stmt := top 34
abbrev sc__law_step : Scope := defScope st__law_step
abbrev N__law_step : List Str := ["inputs", "deeds", "marks", "letter", "bits", "after", "deed", "name", "mark", "two", "bit", "i", "part"]
abbrev d__law_step : He.DefD := ⟨("_law_step", none), "_law_step", "_law_step", defArgs st__law_step, defBody st__law_step, sc__law_step, [], []⟩
abbrev st__law_both : Stmt := top 35
abbrev sc__law_both : Scope := defScope st__law_both
abbrev N__law_both : List Str := ["inputs", "one", "two", "pair", "letter", "bits", "after", "others", "later"]
abbrev d__law_both : He.DefD := ⟨("_law_both", none), "_law_both", "_law_both", defArgs st__law_both, defBody st__law_both, sc__law_both, [], []⟩
abbrev st__law_first : Stmt := top 32
abbrev sc__law_first : Scope := defScope st__law_first
abbrev N__law_first : List Str := ["deeds", "deed"]
abbrev d__law_first : He.DefD := ⟨("_law_first", none), "_law_first", "_law_first", defArgs st__law_first, defBody st__law_first, sc__law_first, [], []⟩
abbrev st__law_same : Stmt := top 36
abbrev sc__law_same : Scope := defScope st__law_same
abbrev N__law_same : List Str := ["pool", "inputs", "one", "two", "size", "room", "first", "todo", "seen", "k", "letter", "pair", "turn"]
abbrev d__law_same : He.DefD := ⟨("_law_same", none), "_law_same", "_law_same", defArgs st__law_same, defBody st__law_same, sc__law_same, [], []⟩
abbrev st_carry_count : Stmt := top 26
abbrev sc_carry_count : Scope := defScope st_carry_count
abbrev N_carry_count : List Str := ["row", "deed"]
abbrev d_carry_count : He.DefD := ⟨("carry_count", none), "carry_count", "carry_count", defArgs st_carry_count, defBody st_carry_count, sc_carry_count, [], []⟩
abbrev st_PlainMaker_init : Stmt := inClass (top 22) 0
abbrev sc_PlainMaker_init : Scope := defScope st_PlainMaker_init
abbrev N_PlainMaker_init : List Str := ["self", "inputs"]
abbrev d_PlainMaker_init : He.DefD := ⟨("PlainMaker", some "__init__"), "__init__", "PlainMaker.__init__", defArgs st_PlainMaker_init, defBody st_PlainMaker_init, sc_PlainMaker_init, [], []⟩
abbrev st_PlainMaker_put : Stmt := inClass (top 22) 1
abbrev sc_PlainMaker_put : Scope := defScope st_PlainMaker_put
abbrev N_PlainMaker_put : List Str := ["self", "deed"]
abbrev d_PlainMaker_put : He.DefD := ⟨("PlainMaker", some "put"), "put", "PlainMaker.put", defArgs st_PlainMaker_put, defBody st_PlainMaker_put, sc_PlainMaker_put, [], []⟩
abbrev st_PlainMaker_both_of : Stmt := inClass (top 22) 3
abbrev sc_PlainMaker_both_of : Scope := defScope st_PlainMaker_both_of
abbrev N_PlainMaker_both_of : List Str := ["self", "one", "other"]
abbrev d_PlainMaker_both_of : He.DefD := ⟨("PlainMaker", some "both_of"), "both_of", "PlainMaker.both_of", defArgs st_PlainMaker_both_of, defBody st_PlainMaker_both_of, sc_PlainMaker_both_of, [], []⟩
abbrev st_PlainMaker_opposite : Stmt := inClass (top 22) 2
abbrev sc_PlainMaker_opposite : Scope := defScope st_PlainMaker_opposite
abbrev N_PlainMaker_opposite : List Str := ["self", "one"]
abbrev d_PlainMaker_opposite : He.DefD := ⟨("PlainMaker", some "opposite"), "opposite", "PlainMaker.opposite", defArgs st_PlainMaker_opposite, defBody st_PlainMaker_opposite, sc_PlainMaker_opposite, [], []⟩
abbrev st_PlainMaker_sum_of : Stmt := inClass (top 22) 4
abbrev sc_PlainMaker_sum_of : Scope := defScope st_PlainMaker_sum_of
abbrev N_PlainMaker_sum_of : List Str := ["self", "one", "other"]
abbrev d_PlainMaker_sum_of : He.DefD := ⟨("PlainMaker", some "sum_of"), "sum_of", "PlainMaker.sum_of", defArgs st_PlainMaker_sum_of, defBody st_PlainMaker_sum_of, sc_PlainMaker_sum_of, [], []⟩
abbrev st_PlainMaker_difference : Stmt := inClass (top 22) 9
abbrev sc_PlainMaker_difference : Scope := defScope st_PlainMaker_difference
abbrev N_PlainMaker_difference : List Str := ["self", "one", "other"]
abbrev d_PlainMaker_difference : He.DefD := ⟨("PlainMaker", some "difference"), "difference", "PlainMaker.difference", defArgs st_PlainMaker_difference, defBody st_PlainMaker_difference, sc_PlainMaker_difference, [], []⟩
abbrev st_PlainMaker_either_of : Stmt := inClass (top 22) 7
abbrev sc_PlainMaker_either_of : Scope := defScope st_PlainMaker_either_of
abbrev N_PlainMaker_either_of : List Str := ["self", "one", "other"]
abbrev d_PlainMaker_either_of : He.DefD := ⟨("PlainMaker", some "either_of"), "either_of", "PlainMaker.either_of", defArgs st_PlainMaker_either_of, defBody st_PlainMaker_either_of, sc_PlainMaker_either_of, [], []⟩
abbrev st_PlainMaker_just_one : Stmt := inClass (top 22) 8
abbrev sc_PlainMaker_just_one : Scope := defScope st_PlainMaker_just_one
abbrev N_PlainMaker_just_one : List Str := ["self", "one", "other"]
abbrev d_PlainMaker_just_one : He.DefD := ⟨("PlainMaker", some "just_one"), "just_one", "PlainMaker.just_one", defArgs st_PlainMaker_just_one, defBody st_PlainMaker_just_one, sc_PlainMaker_just_one, [], []⟩
abbrev st_PlainMaker_zero : Stmt := inClass (top 22) 5
abbrev sc_PlainMaker_zero : Scope := defScope st_PlainMaker_zero
abbrev N_PlainMaker_zero : List Str := ["self"]
abbrev d_PlainMaker_zero : He.DefD := ⟨("PlainMaker", some "zero"), "zero", "PlainMaker.zero", defArgs st_PlainMaker_zero, defBody st_PlainMaker_zero, sc_PlainMaker_zero, [], []⟩
abbrev st_PlainMaker_ones : Stmt := inClass (top 22) 6
abbrev sc_PlainMaker_ones : Scope := defScope st_PlainMaker_ones
abbrev N_PlainMaker_ones : List Str := ["self"]
abbrev d_PlainMaker_ones : He.DefD := ⟨("PlainMaker", some "ones"), "ones", "PlainMaker.ones", defArgs st_PlainMaker_ones, defBody st_PlainMaker_ones, sc_PlainMaker_ones, [], []⟩
abbrev st_PlainMaker_made : Stmt := inClass (top 22) 10
abbrev sc_PlainMaker_made : Scope := defScope st_PlainMaker_made
abbrev N_PlainMaker_made : List Str := ["self", "name", "numbers", "one", "other"]
abbrev d_PlainMaker_made : He.DefD := ⟨("PlainMaker", some "made"), "made", "PlainMaker.made", defArgs st_PlainMaker_made, defBody st_PlainMaker_made, sc_PlainMaker_made, [], []⟩
abbrev st_plain_row : Stmt := top 23
abbrev sc_plain_row : Scope := defScope st_plain_row
abbrev N_plain_row : List Str := ["row", "maker", "places", "deed", "i"]
abbrev d_plain_row : He.DefD := ⟨("plain_row", none), "plain_row", "plain_row", defArgs st_plain_row, defBody st_plain_row, sc_plain_row, [], []⟩
abbrev st__law_ask : Stmt := top 40
abbrev sc__law_ask : Scope := defScope st__law_ask
abbrev N__law_ask : List Str := ["pool", "inputs", "size", "deeds", "out", "given", "row", "answer", "carries", "counted", "again", "deed"]
abbrev d__law_ask : He.DefD := ⟨("_law_ask", none), "_law_ask", "_law_ask", defArgs st__law_ask, defBody st__law_ask, sc__law_ask, [], []⟩
abbrev st_law : Stmt := top 41
abbrev sc_law : Scope := defScope st_law
abbrev N_law : List Str := ["script", "pool", "cell"]
abbrev d_law : He.DefD := ⟨("law", none), "law", "law", defArgs st_law, defBody st_law, sc_law, [], []⟩
abbrev st_InvalidRow_init : Stmt := inClass (top 12) 0
abbrev sc_InvalidRow_init : Scope := defScope st_InvalidRow_init
abbrev N_InvalidRow_init : List Str := ["self", "part", "place", "__class__"]
abbrev d_InvalidRow_init : He.DefD := ⟨("InvalidRow", some "__init__"), "__init__", "InvalidRow.__init__", defArgs st_InvalidRow_init, defBody st_InvalidRow_init, sc_InvalidRow_init, [], []⟩
abbrev FILE : Str := "/claim/cut.py"
abbrev xfs : List He.DefD := [d_InvalidRow_init]
abbrev fa : List He.Fa := [.free "int", .free "tuple", .free "list", .free "len", .free "isinstance", .glo "Row", .free "enumerate", .free "bool", .free "str", .glo "SIZES", .free "all", .free "range", .free "min", .free "max", .free "sum", .glo "CARRIES", .glo "as_tuple", .glo "is_integer", .glo "is_below", .glo "are_values", .glo "is_count_deed", .glo "is_deed", .glo "is_inputs", .mkr "Row", .glo "_law_pick", .glo "_law_deed", .glo "_law_weight", .glo "_law_deeds", .glo "_law_number", .glo "_law_plain_deed", .glo "_law_plain", .glo "_law_mark", .glo "_law_step", .glo "_law_both", .glo "_law_first", .glo "_law_same", .glo "carry_count", .glo "PlainMaker", .mkr "PlainMaker", .cls "PlainMaker", .meth "PlainMaker" "put", .meth "PlainMaker" "both_of", .meth "PlainMaker" "opposite", .meth "PlainMaker" "sum_of", .meth "PlainMaker" "difference", .meth "PlainMaker" "either_of", .meth "PlainMaker" "just_one", .meth "PlainMaker" "zero", .meth "PlainMaker" "ones", .meth "PlainMaker" "made", .glo "plain_row", .glo "_law_ask", .glo "law", .glo "InvalidRow", .free "super"]
abbrev fns : List He.DefD := [d_as_tuple, d_is_integer, d_is_below, d_are_values, d_is_count_deed, d_is_deed, d_is_inputs, d_Row_init, d__law_pick, d__law_deed, d__law_weight, d__law_deeds, d__law_number, d__law_plain_deed, d__law_plain, d__law_mark, d__law_step, d__law_both, d__law_first, d__law_same, d_carry_count, d_PlainMaker_init, d_PlainMaker_put, d_PlainMaker_both_of, d_PlainMaker_opposite, d_PlainMaker_sum_of, d_PlainMaker_difference, d_PlainMaker_either_of, d_PlainMaker_just_one, d_PlainMaker_zero, d_PlainMaker_ones, d_PlainMaker_made, d_plain_row, d__law_ask, d_law]
abbrev tbs : List He.Tab := [tabT "SIZES" tab_SIZES]
abbrev mss : List (Frag → Bool) := [attB ["Row"] "inputs", attB ["Row"] "deeds", attB ["Row"] "out", kitC CS, tabB "SIZES" tab_SIZES, tupC "CARRIES" tup_CARRIES, attB ["PlainMaker"] "deeds", attB ["PlainMaker"] "inputs", attB ["PlainMaker"] "nought", attB ["PlainMaker"] "full", errB FILE "InvalidRow" "InvalidRow.__init__" ["part", "place"]]
abbrev lo0 : List Str := ["is_integer", "is_number", "is_inputs", "as_tuple", "is_below", "is_word", "are_words", "CarryError", "InvalidNumber", "InvalidWords", "InvalidRow", "SIZES", "are_values", "is_count_deed", "is_deed", "counted_word", "deed_word", "Row", "PlainMaker", "plain_row", "CARRIES", "carry_count", "_law_pick", "_law_deed", "_law_weight", "_law_deeds", "_law_first", "_law_mark", "_law_step", "_law_both"]
abbrev lo1 : List Str := ["_law_same", "_law_number", "_law_plain_deed", "_law_plain", "_law_ask"]
abbrev lo : List Str := lo0 ++ lo1
abbrev R : PySem.W.OpenRow := PySem.W.OpenLaw.row PySem.Challenge.rw_onlycarries_k25_plain_rows
abbrev hkY : PySem.W.Hook := hookY 5 (fun K => noL K && mss.all fun m => m K) fa fns xfs tbs
def ob (s : PySem.W.SharedT) : AlY := obsYG 5 (fun K => noL K && mss.all fun m => m K) fa fns xfs tbs (HandSHeadRun.getT s)
end Py
namespace Py
open PySem PySem.Spec PyProof.Rows L2
theorem run0 (w : World) : HandSHeadRun.RunEq R (PySem.W.view R.prog [41]) hkY ob 8000 lo (w.withFollow "special-get-raises" false) := by
  intro os
  kernel_rfl
theorem run1 (w : World) : HandSHeadRun.RunEq R (PySem.W.view R.prog [41]) hkY ob 8000 lo (w.withFollow "special-get-raises" true) := by
  intro os
  kernel_rfl
theorem run (w : World) : HandSHeadRun.RunEq R (PySem.W.view R.prog [41]) hkY ob 8000 lo w := PySem.W.byRow2 "special-get-raises" run0 run1 w
end Py
/-! More of what is computed. -/
/-! Draws: a pool that a def changes, what is drawn of it. -/
namespace Py
open PySem L2
/-- a value given back, and what the first name's own list holds then -/
def retB (m : EM) : SM := fun e => m e >>= fun d => var 0 e >>= fun l => .ok (.ret (.tup [d, l]))
def oidxC (x y : D) : Res D := match x with | .drw (.inr q) => oidx (.lst (q.2.map .int)) y | _ => .stuck
def blenC (x : D) : Res D := match x with | .drw (.inr q) => blen (.lst (q.2.map .int)) | _ => .stuck
/-- what a pool holds -/
def DV (k : Bool) (a0 : Nat) (xs : List Int) : List D → Prop := fun ds => match k with
  | false => ∃ p c m : Int, ds = [.drw (.inr (a0, xs)), .int p, .int c, .int m] ∧ 0 ≤ p ∧ 0 ≤ m ∧ m < 2147483647
  | true => ∃ p c j m : Int, ds = [.drw (.inr (a0, xs)), .int p, .int c, .int j, .int m] ∧ 0 ≤ p ∧ 0 ≤ m ∧ m < 2147483647
/-- some number below n -/
def pickF (k : Bool) : List D → Res D
  | [.drw (.inl q), .int n] => if q = k ∧ 0 < n ∧ n < 1073741824 then .pick (n - 1).toNat fun i => .ok (.int i) else .stuck
  | _ => .stuck
/-- the body of a def that draws -/
def Draws (k : Bool) (n : Nat) (b : SM) : Prop := ∀ (a0 : Nat) (xs : List Int) (ds : List D) (many : Int), DV k a0 xs ds → 0 < many → many < 1073741824 →
  ∃ r ds', b ([some (.lst ds), some (.int many)] ++ List.replicate (n - 2) none) = .ok (.ret (.tup [.int r, .lst ds'])) ∧ 0 ≤ r ∧ r < many ∧ DV k a0 xs ds'
def allI : List D → Option (List Int)
  | [] => some []
  | .int i :: r => (allI r).map (i :: ·)
  | _ => none
/-- a new pool -/
def mkpF : D → Res D
  | .lst [.lst xs, .int p, .int _, .int u] => if (allI xs).isSome ∧ 0 ≤ p ∧ 0 ≤ u ∧ u < 2147483647 then .ok (.drw (.inl false)) else .stuck
  | .lst [.lst xs, .int p, .int _, .int _, .int u] => if (allI xs).isSome ∧ 0 ≤ p ∧ 0 ≤ u ∧ u < 2147483647 then .ok (.drw (.inl true)) else .stuck
  | _ => .stuck
def mkp (m : EM) : EM := fun e => m e >>= mkpF
theorem mkpF_inv (d : D) : mkpF d = .stuck ∨ (∃ xs p c u, d = .lst [.lst xs, .int p, .int c, .int u] ∧ ((allI xs).isSome ∧ 0 ≤ p ∧ 0 ≤ u ∧ u < 2147483647) ∧ mkpF d = .ok (.drw (.inl false))) ∨
    ∃ xs p c j u, d = .lst [.lst xs, .int p, .int c, .int j, .int u] ∧ ((allI xs).isSome ∧ 0 ≤ p ∧ 0 ≤ u ∧ u < 2147483647) ∧ mkpF d = .ok (.drw (.inl true)) := by
  unfold mkpF
  split
  · rename_i xs p c u
    by_cases h : (allI xs).isSome ∧ 0 ≤ p ∧ 0 ≤ u ∧ u < 2147483647
    · exact .inr (.inl ⟨xs, p, c, u, rfl, h, if_pos h⟩)
    · exact .inl (if_neg h)
  · rename_i xs p c j u
    by_cases h : (allI xs).isSome ∧ 0 ≤ p ∧ 0 ≤ u ∧ u < 2147483647
    · exact .inr (.inr ⟨xs, p, c, j, u, rfl, h, if_pos h⟩)
    · exact .inl (if_neg h)
  · exact .inl rfl
/-- whatever is drawn: it comes to an end, and P holds of it -/
def Always {α : Type} (P : α → Prop) : Res α → Prop
  | .ok a => P a
  | .pick n k => ∀ i, i ≤ n → Always P (k i)
  | .exc _ _ => False
  | .stuck => False
end Py
/-! How the mirrors are computed: equations, loops, comprehensions. -/
namespace Py
open PySem
/-! ### equations -/
theorem var_eq {i : Nat} {e : Env} {d : D} (h : e[i]? = some (some d)) : var i e = .ok d := by
  unfold var
  rw [h]
@[simp] theorem cst_eq (d : D) (e : Env) : cst d e = .ok d := rfl
@[simp] theorem un_eq (f : D → Res D) (a : EM) (e : Env) : un f a e = (a e >>= f) := rfl
@[simp] theorem bin_eq (f : D → D → Res D) (a b : EM) (e : Env) : bin f a b e = (a e >>= fun x => b e >>= fun y => f x y) := rfl
@[simp] theorem argN_eq (e : Env) : argN e = .ok [] := rfl
@[simp] theorem argC_eq (a : EM) (r : AM) (e : Env) : argC a r e = (a e >>= fun x => r e >>= fun xs => .ok (x :: xs)) := rfl
@[simp] theorem call_eq (f : List D → Res D) (a : AM) (e : Env) : call f a e = (a e >>= f) := rfl
@[simp] theorem tst_eq (a : EM) (e : Env) : tst a e = (a e >>= truthy) := rfl
@[simp] theorem andT_eq (a b : TM) (e : Env) : andT a b e = (a e >>= fun x => if x then b e else .ok false) := rfl
@[simp] theorem orT_eq (a b : TM) (e : Env) : orT a b e = (a e >>= fun x => if x then .ok true else b e) := rfl
@[simp] theorem notT_eq (a : TM) (e : Env) : notT a e = (a e >>= fun x => .ok (!x)) := rfl
@[simp] theorem ifE_eq (t : TM) (a b : EM) (e : Env) : ifE t a b e = (t e >>= fun x => if x then a e else b e) := rfl
@[simp] theorem ite_eq (t : TM) (a b : SM) (e : Env) : ite t a b e = (t e >>= fun x => if x then a e else b e) := rfl
@[simp] theorem skip_eq (e : Env) : skip e = .ok (.next e) := rfl
@[simp] theorem ret_eq (m : EM) (e : Env) : ret m e = (m e >>= fun d => .ok (.ret d)) := rfl
@[simp] theorem asg_eq (g : GM) (m : EM) (e : Env) : asg g m e = (m e >>= fun d => lift (g d e) >>= fun e' => .ok (.next e')) := rfl
@[simp] theorem gnm_eq (i : Nat) (d : D) (e : Env) : gnm i d e = some (e.set i (some d)) := rfl
@[simp] theorem seq_eq (a b : SM) (e : Env) : seq a b e = (a e >>= fun f => match f with | .next e' => b e' | r => .ok r) := rfl
@[simp] theorem forB_eq (g : GM) (b : SM) (x : D) (e : Env) : forB g b x e = (lift (g x e) >>= b) := rfl
@[simp] theorem drop_eq (m : EM) (e : Env) : Py.drop m e = (m e >>= fun _ => .ok (.next e)) := rfl
@[simp] theorem tupE_eq (a : AM) (e : Env) : tupE a e = (a e >>= fun xs => chk xs.length (.tup xs)) := rfl
@[simp] theorem lstE_eq (a : AM) (e : Env) : lstE a e = (a e >>= fun xs => chk xs.length (.lst xs)) := rfl
@[simp] theorem andE_eq (a b : EM) (e : Env) : andE a b e = (a e >>= fun x => match x with | .bl true => b e | .bl false => .ok (.bl false) | _ => .stuck) := rfl
@[simp] theorem orE_eq (a b : EM) (e : Env) : orE a b e = (a e >>= fun x => match x with | .bl false => b e | .bl true => .ok (.bl true) | _ => .stuck) := rfl
@[simp] theorem chain_eq (f g : D → D → Res D) (a b c : EM) (e : Env) : chain f g a b c e = (a e >>= fun x => b e >>= fun y => f x y >>= fun z => match z with
  | .bl true => c e >>= fun u => g y u
  | .bl false => .ok (.bl false)
  | _ => .stuck) := rfl
@[simp] theorem iseq_eq (a : EM) (e : Env) : iseq a e = (a e >>= fun x => match x with | .lst xs => .ok xs | .tup xs => .ok xs | _ => .stuck) := rfl
@[simp] theorem for_eq (it : IM) (g : GM) (b : SM) (e : Env) : for_ it g b e = (it e >>= fun xs => forL (forB g b) xs e) := rfl
@[simp] theorem app_eq (i : Nat) (m : EM) (e : Env) : app i m e = (var i e >>= fun l => match l with
  | .lst xs => m e >>= fun d => if xs.length < SZ then .ok (.next (e.set i (some (.lst (xs ++ [d]))))) else .stuck
  | _ => .stuck) := rfl
@[simp] theorem aug_eq (i : Nat) (f : D → D → Res D) (m : EM) (e : Env) : aug i f m e = (var i e >>= fun x => m e >>= fun y => f x y >>= fun z => .ok (.next (e.set i (some z)))) := rfl
@[simp] theorem done_next (e : Env) : done (.ok (.next e)) = .ok .non := rfl
@[simp] theorem done_ret (d : D) : done (.ok (.ret d)) = .ok d := rfl
@[simp] theorem thru_eq (m : SM) (e : Env) : thru m e = noexc (m e) := rfl
@[simp] theorem brk_eq (e : Env) : brk e = .ok (.brk e) := rfl
@[simp] theorem cnt_eq (e : Env) : cnt e = .ok (.cnt e) := rfl
@[simp] theorem retN_eq (e : Env) : retN e = .ok (.ret .non) := rfl
@[simp] theorem chk_0 {d : D} : chk 0 d = .ok d := chk_ok (by decide)
@[simp] theorem chk_1 {d : D} : chk 1 d = .ok d := chk_ok (by decide)
@[simp] theorem chk_2 {d : D} : chk 2 d = .ok d := chk_ok (by decide)
@[simp] theorem chk_3 {d : D} : chk 3 d = .ok d := chk_ok (by decide)
@[simp] theorem chk_4 {d : D} : chk 4 d = .ok d := chk_ok (by decide)
@[simp] theorem chk_5 {d : D} : chk 5 d = .ok d := chk_ok (by decide)
@[simp] theorem chk_6 {d : D} : chk 6 d = .ok d := chk_ok (by decide)
@[simp] theorem chk_7 {d : D} : chk 7 d = .ok d := chk_ok (by decide)
@[simp] theorem chk_8 {d : D} : chk 8 d = .ok d := chk_ok (by decide)
@[simp] theorem chk_9 {d : D} : chk 9 d = .ok d := chk_ok (by decide)
@[simp] theorem chk_10 {d : D} : chk 10 d = .ok d := chk_ok (by decide)
@[simp] theorem chk_11 {d : D} : chk 11 d = .ok d := chk_ok (by decide)
@[simp] theorem chk_12 {d : D} : chk 12 d = .ok d := chk_ok (by decide)
@[simp] theorem chk_13 {d : D} : chk 13 d = .ok d := chk_ok (by decide)
@[simp] theorem chk_14 {d : D} : chk 14 d = .ok d := chk_ok (by decide)
@[simp] theorem chk_15 {d : D} : chk 15 d = .ok d := chk_ok (by decide)
@[simp] theorem chk_16 {d : D} : chk 16 d = .ok d := chk_ok (by decide)
@[simp] theorem chk_17 {d : D} : chk 17 d = .ok d := chk_ok (by decide)
@[simp] theorem chk_18 {d : D} : chk 18 d = .ok d := chk_ok (by decide)
@[simp] theorem chk_19 {d : D} : chk 19 d = .ok d := chk_ok (by decide)
@[simp] theorem chk_20 {d : D} : chk 20 d = .ok d := chk_ok (by decide)
@[simp] theorem chk_21 {d : D} : chk 21 d = .ok d := chk_ok (by decide)
@[simp] theorem chk_22 {d : D} : chk 22 d = .ok d := chk_ok (by decide)
@[simp] theorem chk_23 {d : D} : chk 23 d = .ok d := chk_ok (by decide)
/-! ### calls of defs -/
theorem fn1 {n : Nat} {b : SM} {x : D} : fn 1 n b [x] = done (b (some x :: List.replicate (n - 1) none)) := if_pos rfl
theorem fn2 {n : Nat} {b : SM} {x y : D} : fn 2 n b [x, y] = done (b (some x :: some y :: List.replicate (n - 2) none)) := if_pos rfl
theorem fn3 {n : Nat} {b : SM} {x y z : D} : fn 3 n b [x, y, z] = done (b (some x :: some y :: some z :: List.replicate (n - 3) none)) := if_pos rfl
theorem fn4 {n : Nat} {b : SM} {x y z u : D} : fn 4 n b [x, y, z, u] = done (b (some x :: some y :: some z :: some u :: List.replicate (n - 4) none)) := if_pos rfl
/-! ### operators on numbers -/
@[simp] theorem oadd_ii (i j : Int) : oadd (.int i) (.int j) = .ok (.int (i + j)) := rfl
@[simp] theorem osub_ii (i j : Int) : osub (.int i) (.int j) = .ok (.int (i - j)) := rfl
theorem omul_ii {i j : Int} (h : i.natAbs < B64 ∨ j.natAbs < B64) : omul (.int i) (.int j) = .ok (.int (i * j)) := if_pos h
theorem omul_l {i j : Int} (h : -18446744073709551616 < i) (h' : i < 18446744073709551616) : omul (.int i) (.int j) = .ok (.int (i * j)) := omul_ii (.inl (by unfold B64; omega))
theorem omul_r {i j : Int} (h : -18446744073709551616 < j) (h' : j < 18446744073709551616) : omul (.int i) (.int j) = .ok (.int (i * j)) := omul_ii (.inr (by unfold B64; omega))
theorem opow18 : opow (.int 10) (.int 18) = .ok (.int 1000000000000000000) := rfl
theorem omod_ii {i j : Int} (h : 0 < j) : omod (.int i) (.int j) = .ok (.int (i % j)) := if_pos h
theorem ofdiv_ii {i j : Int} (h : 0 < j ∧ j < 1073741824) : ofdiv (.int i) (.int j) = .ok (.int (i / j)) := if_pos h
theorem oshl_ii {i j : Int} (h : 0 ≤ j ∧ (Builtin.Int.intBits i : Int) + j ≤ 134217728) : oshl (.int i) (.int j) = .ok (.int (i * 2 ^ j.toNat)) := if_pos h
theorem oshr_ii {i j : Int} (h : 0 ≤ j) : oshr (.int i) (.int j) = .ok (.int (i / 2 ^ j.toNat)) := if_pos h
@[simp] theorem oand_ii (i j : Int) : oand (.int i) (.int j) = .ok (.int (Builtin.bitAnd i j)) := rfl
@[simp] theorem olt_ii (i j : Int) : olt (.int i) (.int j) = .ok (.bl (decide (i < j))) := rfl
@[simp] theorem ole_ii (i j : Int) : ole (.int i) (.int j) = .ok (.bl (decide (i ≤ j))) := rfl
@[simp] theorem ogt_ii (i j : Int) : ogt (.int i) (.int j) = .ok (.bl (decide (j < i))) := rfl
@[simp] theorem oge_ii (i j : Int) : oge (.int i) (.int j) = .ok (.bl (decide (j ≤ i))) := rfl
@[simp] theorem oneg_i (i : Int) : oneg (.int i) = .ok (.int (-i)) := rfl
@[simp] theorem oeq_ii (i j : Int) : oeq (.int i) (.int j) = .ok (.bl (i == j)) := rfl
@[simp] theorem one_ii (i j : Int) : Py.one (.int i) (.int j) = .ok (.bl (!(i == j))) := rfl
@[simp] theorem bint_i (i : Int) : bint (.int i) = .ok (.int i) := rfl
@[simp] theorem bint_b (b : Bool) : bint (.bl b) = .ok (.int (b2i b)) := rfl
@[simp] theorem truthy_b (b : Bool) : truthy (.bl b) = .ok b := rfl
@[simp] theorem truthy_i (i : Int) : truthy (.int i) = .ok (i != 0) := rfl
@[simp] theorem blen_l (xs : List D) : blen (.lst xs) = .ok (.int xs.length) := rfl
@[simp] theorem blen_t (xs : List D) : blen (.tup xs) = .ok (.int xs.length) := rfl
@[simp] theorem btuple_l (xs : List D) : btuple (.lst xs) = .ok (.tup xs) := rfl
@[simp] theorem btuple_t (xs : List D) : btuple (.tup xs) = .ok (.tup xs) := rfl
@[simp] theorem blist_l (xs : List D) : blist (.lst xs) = .ok (.lst xs) := rfl
@[simp] theorem blist_t (xs : List D) : blist (.tup xs) = .ok (.lst xs) := rfl
@[simp] theorem onb_b (b : Bool) : onb (.bl b) = .ok (.bl (!b)) := rfl
/-! ### subscripts -/
theorem ixN_nat {n k : Nat} (h : k < n) : L2.ixN n (k : Int) = some k := by
  unfold L2.ixN
  simp [h]
theorem atI_nat {α : Type} {xs : List α} {k : Nat} (h : k < xs.length) : L2.atI xs (k : Int) = some xs[k] := by
  unfold L2.atI
  rw [ixN_nat h]
  simp [h]
theorem oidx_l {xs : List D} {k : Nat} {d : D} (h : xs[k]? = some d) : oidx (.lst xs) (.int (k : Int)) = .ok d := by
  have hk : k < xs.length := by
    rcases Nat.lt_or_ge k xs.length with h1 | h1
    · exact h1
    · rw [List.getElem?_eq_none h1] at h
      cases h
  unfold oidx
  simp only [atI_nat hk, opt]
  rw [List.getElem?_eq_getElem hk] at h
  rw [Option.some.inj h]
theorem oidx_t {xs : List D} {k : Nat} {d : D} (h : xs[k]? = some d) : oidx (.tup xs) (.int (k : Int)) = .ok d := by
  have q : oidx (.tup xs) (.int (k : Int)) = oidx (.lst xs) (.int (k : Int)) := rfl
  rw [q]
  exact oidx_l h
/-! ### loops -/
theorem rng_map (n : Nat) : rngL 0 (n : Int) = (List.range n).map fun i => D.int ((i : Nat) : Int) := by
  unfold rngL
  rw [Int.sub_zero, Int.toNat_natCast]
  refine List.map_congr_left fun i _ => ?_
  rw [Int.zero_add]
theorem rng_lt {n : Nat} (h : n ≤ 1000) : n < B62 := Nat.lt_of_le_of_lt h (by decide)
theorem irng1_int {a : EM} {e : Env} {i : Int} (h : a e = .ok (.int i)) : irng1 a e = if i.natAbs < B62 then .ok (rngL 0 i) else .stuck := by
  unfold irng1
  simp only [h, bind_ok]
theorem irng1_nat {a : EM} {e : Env} {n : Nat} (h : a e = .ok (.int (n : Int))) (hn : n < B62) : irng1 a e = .ok ((List.range n).map fun i => .int ((i : Nat) : Int)) := by
  rw [← rng_map, irng1_int h]
  exact if_pos hn
theorem forL_inv {b : D → Env → Res Fl} (I : Nat → Env → Prop) : ∀ {xs : List D} {e : Env} (k : Nat), I k e → (∀ i e, (h : i < xs.length) → I (k + i) e → ∃ e', b xs[i] e = .ok (.next e') ∧ I (k + i + 1) e') → ∃ e', forL b xs e = .ok (.next e') ∧ I (k + xs.length) e'
  | [], e, k, h, _ => ⟨e, rfl, h⟩
  | x :: xs, e, k, h, hb => by
    obtain ⟨e1, h1, i1⟩ := hb 0 e (by simp) h
    have h1' : b x e = .ok (.next e1) := h1
    obtain ⟨e2, h2, i2⟩ := forL_inv (xs := xs) I (k + 1) i1 fun i e' hi hI => by
      have hI' : I (k + (i + 1)) e' := by
        rw [show k + (i + 1) = k + 1 + i by omega]
        exact hI
      obtain ⟨e3, h3, i3⟩ := hb (i + 1) e' (by simpa using hi) hI'
      refine ⟨e3, by simpa using h3, ?_⟩
      rw [show k + 1 + i + 1 = k + (i + 1) + 1 by omega]
      exact i3
    refine ⟨e2, ?_, ?_⟩
    · unfold forL
      rw [h1']
      exact h2
    · rw [show k + (x :: xs).length = k + 1 + xs.length by simp; omega]
      exact i2
/-! ### comprehensions -/
/-! ### sums, all -/
theorem intsOf_map : ∀ is : List Int, intsOf (is.map .int) = some is
  | [] => rfl
  | i :: is => by
    simp only [List.map_cons, intsOf, intsOf_map is]
    rfl
theorem boolsOf_map : ∀ is : List Bool, boolsOf (is.map .bl) = some is
  | [] => rfl
  | i :: is => by
    simp only [List.map_cons, boolsOf, boolsOf_map is]
    rfl
theorem bsum_ints (is : List Int) : bsum (.lst (is.map .int)) = .ok (.int is.sum) := by
  unfold bsum
  simp only [intsOf_map]
theorem ball_bools (bs : List Bool) : ball (.lst (bs.map .bl)) = .ok (.bl (bs.all id)) := by
  unfold ball
  simp only [boolsOf_map]
/-! ### bits -/
theorem oand1 (i : Int) : oand (.int i) (.int 1) = .ok (.int (i % 2)) := by rw [oand_ii, PyProof.Rows.bitAnd_m1]
theorem oshr_nat (c : Int) (p : Nat) : oshr (.int c) (.int (p : Int)) = .ok (.int (c / 2 ^ p)) := by
  rw [oshr_ii (Int.natCast_nonneg p), Int.toNat_natCast]
theorem intBits_1 : (Builtin.Int.intBits 1 : Int) = 1 := by decide
theorem oshl1 (p : Nat) (h : p ≤ 1000) : oshl (.int 1) (.int (p : Int)) = .ok (.int (2 ^ p)) := by
  rw [oshl_ii ⟨Int.natCast_nonneg p, by rw [intBits_1]; omega⟩, Int.toNat_natCast, Int.one_mul]
end Py
/-! The two defs that draw. -/
namespace Py
open PySem
def pickB : SM :=
  (seq (ite (tst (bin ogt (bin oidx (var 0) (cst (.int 2))) (cst (.int 1)))) (seq (asg (gnm 2) (bin omod (un bint (bin oidx (var 0) (cst (.int 2)))) (var 1)))
  (seq (setL 0 (cst (.int 2)) (bin ofdiv (bin oidx (var 0) (cst (.int 2))) (var 1)))
  (retB (var 2)))) skip)
  (seq (asg (gnm 3) (cst (.int 0)))
  (seq (ite (tst (bin olt (bin oidx (var 0) (cst (.int 1))) (un blenC (bin oidx (var 0) (cst (.int 0)))))) (seq (asg (gnm 3) (bin oidxC (bin oidx (var 0) (cst (.int 0))) (bin oidx (var 0) (cst (.int 1)))))
  (setL 0 (cst (.int 1)) (bin oadd (bin oidx (var 0) (cst (.int 1))) (cst (.int 1))))) skip)
  (seq (ite (tst (bin ogt (var 3) (bin oadd (bin opow (cst (.int 10)) (cst (.int 18))) (cst (.int 1))))) (seq (asg (gnm 3) (bin osub (var 3) (bin opow (cst (.int 10)) (cst (.int 18)))))
  (seq (setL 0 (cst (.int 2)) (bin ofdiv (var 3) (var 1)))
  (retB (bin omod (un bint (var 3)) (var 1))))) skip)
  (seq (setL 0 (cst (.int 3)) (bin omod (un bint (bin oadd (bin oadd (bin omul (bin oidx (var 0) (cst (.int 3))) (cst (.int 48271))) (bin omul (var 3) (cst (.int 69621)))) (cst (.int 11)))) (cst (.int 2147483647))))
  (retB (bin omod (bin ofdiv (bin omod (un bint (bin oadd (bin omul (bin oidx (var 0) (cst (.int 3))) (bin oidx (var 0) (cst (.int 3)))) (bin omul (bin oidx (var 0) (cst (.int 3))) (cst (.int 7919))))) (cst (.int 998244353))) (cst (.int 7))) (var 1))))))))
def pickT : SM :=
  (seq (ite (tst (bin ogt (var 3) (bin oadd (bin opow (cst (.int 10)) (cst (.int 18))) (cst (.int 1))))) (seq (asg (gnm 3) (bin osub (var 3) (bin opow (cst (.int 10)) (cst (.int 18)))))
  (seq (setL 0 (cst (.int 2)) (bin ofdiv (var 3) (var 1)))
  (retB (bin omod (un bint (var 3)) (var 1))))) skip)
  (seq (setL 0 (cst (.int 3)) (bin omod (un bint (bin oadd (bin oadd (bin omul (bin oidx (var 0) (cst (.int 3))) (cst (.int 48271))) (bin omul (var 3) (cst (.int 69621)))) (cst (.int 11)))) (cst (.int 2147483647))))
  (retB (bin omod (bin ofdiv (bin omod (un bint (bin oadd (bin omul (bin oidx (var 0) (cst (.int 3))) (bin oidx (var 0) (cst (.int 3)))) (bin omul (bin oidx (var 0) (cst (.int 3))) (cst (.int 7919))))) (cst (.int 998244353))) (cst (.int 7))) (var 1)))))
theorem draws_pick : Draws false 4 pickB := by
  rintro a0 xs _ n ⟨p, c, m, rfl, hp, hm0, hm1⟩ hn0 hn1
  have i0 : ∀ {a b c d : D}, oidx (.lst [a, b, c, d]) (.int 0) = .ok a := rfl
  have i1 : ∀ {a b c d : D}, oidx (.lst [a, b, c, d]) (.int 1) = .ok b := rfl
  have i2 : ∀ {a b c d : D}, oidx (.lst [a, b, c, d]) (.int 2) = .ok c := rfl
  have i3 : ∀ {a b c d : D}, oidx (.lst [a, b, c, d]) (.int 3) = .ok d := rfl
  have x1 : L2.ixN 4 1 = some 1 := rfl
  have x2 : L2.ixN 4 2 = some 2 := rfl
  have x3 : L2.ixN 4 3 = some 3 := rfl
  have hmod : ∀ z : Int, 0 ≤ z % n ∧ z % n < n := fun z => ⟨Int.emod_nonneg _ (by omega), Int.emod_lt_of_pos _ hn0⟩
  have mods : ∀ z : Int, omod (.int z) (.int n) = .ok (.int (z % n)) := fun z => omod_ii hn0
  have divs : ∀ z : Int, ofdiv (.int z) (.int n) = .ok (.int (z / n)) := fun z => ofdiv_ii ⟨hn0, hn1⟩
  have bl : blenC (.drw (.inr (a0, xs))) = .ok (.int (xs.length : Int)) := by simp [blenC]
  have md1 : ∀ z : Int, omod (.int z) (.int 2147483647) = .ok (.int (z % 2147483647)) := fun z => omod_ii (by decide)
  have md2 : ∀ z : Int, omod (.int z) (.int 998244353) = .ok (.int (z % 998244353)) := fun z => omod_ii (by decide)
  have dv7 : ∀ z : Int, ofdiv (.int z) (.int 7) = .ok (.int (z / 7)) := fun z => ofdiv_ii (by decide)
  have ml1 : ∀ z : Int, omul (.int z) (.int 48271) = .ok (.int (z * 48271)) := fun z => omul_r (by decide) (by decide)
  have ml2 : ∀ z : Int, omul (.int z) (.int 69621) = .ok (.int (z * 69621)) := fun z => omul_r (by decide) (by decide)
  have ml3 : ∀ z : Int, omul (.int z) (.int 7919) = .ok (.int (z * 7919)) := fun z => omul_r (by decide) (by decide)
  have ml4 : ∀ z y : Int, omul (.int (z % 2147483647)) (.int y) = .ok (.int (z % 2147483647 * y)) := fun z y => omul_l (by omega) (by omega)
  have mm : ∀ z : Int, 0 ≤ z % 2147483647 ∧ z % 2147483647 < 2147483647 := fun z => by omega
  by_cases hc : 1 < c
  · refine ⟨c % n, _, ?_, (hmod c).1, (hmod c).2, ⟨p, c / n, m, rfl, hp, hm0, hm1⟩⟩
    simp [pickB, pickT, var, setL, retB, i2, hc, x2, mods, divs]
  -- the end of the walk, the cell known
  have tail : ∀ (p' z : Int), 0 ≤ p' → ∃ r ds', (pickT : SM) [some (.lst [.drw (.inr (a0, xs)), .int p', .int c, .int m]), some (.int n), none, some (.int z)] = .ok (.ret (.tup [.int r, .lst ds'])) ∧ 0 ≤ r ∧ r < n ∧ DV false a0 xs ds' := by
    intro p' z hp'
    by_cases hz : 1000000000000000001 < z
    · refine ⟨(z - 1000000000000000000) % n, _, ?_, (hmod _).1, (hmod _).2, ⟨p', (z - 1000000000000000000) / n, m, rfl, hp', hm0, hm1⟩⟩
      simp [pickT, var, setL, retB, opow18, hz, x2, mods, divs]
    · generalize hu : (m * 48271 + z * 69621 + 11) % 2147483647 = u
      have hu1 := mm (m * 48271 + z * 69621 + 11)
      rw [hu] at hu1
      have ml5 : omul (.int u) (.int u) = .ok (.int (u * u)) := omul_l (by omega) (by omega)
      refine ⟨(u * u + u * 7919) % 998244353 / 7 % n, _, ?_, (hmod _).1, (hmod _).2, ⟨p', c, u, rfl, hp', hu1.1, hu1.2⟩⟩
      simp [pickT, var, setL, retB, opow18, hz, x3, i3, mods, divs, ml1, ml2, ml3, md1, hu, ml5, md2, dv7]
  by_cases hq : p < (xs.length : Int)
  · obtain ⟨k, rfl⟩ : ∃ k : Nat, p = (k : Int) := ⟨p.toNat, by omega⟩
    have hk : k < xs.length := by omega
    have cell : oidxC (.drw (.inr (a0, xs))) (.int (k : Int)) = .ok (.int xs[k]) := by
      unfold oidxC
      exact oidx_l (by simp [hk])
    obtain ⟨r, ds', h1, h2⟩ := tail ((k : Int) + 1) xs[k] (by omega)
    refine ⟨r, ds', ?_, h2⟩
    rw [← h1]
    simp [pickB, pickT, var, setL, i0, i1, i2, hc, hq, x1, bl, cell]
  · obtain ⟨r, ds', h1, h2⟩ := tail p 0 hp
    refine ⟨r, ds', ?_, h2⟩
    rw [← h1]
    simp [pickB, pickT, var, setL, i0, i1, i2, hc, hq, x1, bl]
end Py
/-! Dict comprehensions, keys walked, str of a number. -/
/-! Texts: joined, split, with numbers put in; texts read as numbers; signs of a text; every other item. -/
/-! One sign not in a text. -/
/-! xs.index(x): the first place of a flat thing in a list. -/
/-! Expressions that change a name's own object: the frame goes through them. -/
namespace Py
open PySem L2
abbrev XM := Env → Res (D × Env)
abbrev XT := Env → Res (Bool × Env)
abbrev XA := Env → Res (List D × Env)
def upX (m : EM) : XM := fun e => m e >>= fun d => .ok (d, e)
def xaN : XA := fun e => .ok ([], e)
def xaC (a : XM) (r : XA) : XA := fun e => a e >>= fun p => r p.2 >>= fun q => .ok (p.1 :: q.1, q.2)
/-- what a def gives back that was lent slot i's object -/
def backX (i : Nat) (e : Env) : D → Res (D × Env)
  | .tup [d, l] => .ok (d, e.set i (some l))
  | _ => .stuck
def lendX (i : Nat) (f : List D → Res D) (a : XA) : XM := fun e => var i e >>= fun _ => a e >>= fun p => var i p.2 >>= fun o => f (o :: p.1) >>= backX i p.2
/-- x.m(..), x's own object of class c -/
def lendM (c m : String) (i : Nat) (f : List D → Res D) (a : XA) : XM := fun e => var i e >>= fun o => match o with
  | .ins c' fs => if c' = c ∧ (fs.lookup m).isNone = true then lendX i f a e else .stuck
  | _ => .stuck
/-! statements -/
/-- return of a def that was lent slot 0's object -/
def retL (m : XM) : SM := fun e => m e >>= fun p => var 0 p.2 >>= fun l => .ok (.ret (.tup [p.1, l]))
def isL : D → Res Unit
  | .lst _ => .ok ()
  | _ => .stuck
/-- x.append(m), m changes another own object -/
def appX (i : Nat) (m : XM) : SM := fun e => var i e >>= fun l0 => isL l0 >>= fun _ => m e >>= fun p => var i p.2 >>= fun l => match l with
  | .lst xs => if xs.length < SZ then .ok (.next (p.2.set i (some (.lst (xs ++ [p.1]))))) else .stuck
  | _ => .stuck
/-! an own instance's inner objects -/
def fldD (c f : String) : D → Res (List (String × D) × D)
  | .ins c' fs => if c' = c ∧ (fs.map (·.1)).Nodup then match fs.lookup f with | some d => .ok (fs, d) | none => .stuck else .stuck
  | _ => .stuck
/-- x.f.append(m) -/
def appF (i : Nat) (c f : String) (m : EM) : SM := fun e => var i e >>= fun o => fldD c f o >>= fun q => match q.2 with
  | .lst xs => m e >>= fun d => if xs.length < SZ then .ok (.next (e.set i (some (.ins c (putF f (.lst (xs ++ [d])) q.1))))) else .stuck
  | _ => .stuck
/-- x.f = a new list or dict -/
def setFN (i : Nat) (cs : List String) (f : String) (m : EM) : SM := fun e => var i e >>= fun o => match o with
  | .ins c fs => if cs.contains c ∧ fs.length < 1000 ∧ (fs.lookup f).isNone = true then m e >>= fun d => .ok (.next (e.set i (some (.ins c (putF f d fs))))) else .stuck
  | _ => .stuck
/-- x.f = m, m changes x -/
def setFX (i : Nat) (cs : List String) (f : String) (m : XM) : SM := fun e => m e >>= fun p => var i p.2 >>= fun o => match o with
  | .ins c fs => if cs.contains c ∧ fs.length < 1000 then .ok (.next (p.2.set i (some (.ins c (putF f p.1 fs))))) else .stuck
  | _ => .stuck
/-! defs -/
def doneL (fl : Fl) : Res D := match fl with
  | .next e => match e[0]? with | some (some l) => .ok (.tup [.non, l]) | _ => .stuck
  | .ret d => .ok d
  | .brk _ => .stuck
  | .cnt _ => .stuck
/-- a def that is lent its first argument -/
def fnL (p n : Nat) (body : SM) (ds : List D) : Res D := if ds.length = p then body (ds.map some ++ List.replicate (n - p) none) >>= doneL else .stuck
end Py
namespace Py
/-- x, y = a, b -/
def par2 (i j : Nat) (a : AM) : SM := fun e => a e >>= fun ds => match ds with
  | [x, y] => .ok (.next ((e.set i (some x)).set j (some y)))
  | _ => .stuck
end Py
/-! What plain data look like in the abstract heap, and the readings that say: this code computes that. -/
namespace Py
open PySem L2
/-- the world in which the dicts' keys were hashed -/
class WI where
  w : World
/-- one stands in that world -/
class CW [WI] (X : Cx) : Prop where
  eq : X.w = WI.w
class HW [WI] (w : World) : Prop where
  eq : w = WI.w
variable [WI]
theorem ofS_inj {a b : String} (h : Str.ofString a = Str.ofString b) : a = b := by
  rw [Str.ofString_eq_toList, Str.ofString_eq_toList] at h
  have h1 : a.toList.map Char.toNat = b.toList.map Char.toNat := by
    have := congrArg (fun s : Str => s.cps.toList) h
    simpa using this
  have h2 : a.toList = b.toList := by
    have hc : ∀ x y : Char, x.toNat = y.toNat → x = y := fun x y e => by
      apply Char.ext
      apply UInt32.toNat_inj.mp
      exact e
    generalize a.toList = l at h1
    generalize b.toList = m at h1
    induction l generalizing m with
    | nil => cases m with
      | nil => rfl
      | cons _ _ => simp at h1
    | cons x l ih => cases m with
      | nil => simp at h1
      | cons y m =>
        simp only [List.map_cons, List.cons.injEq] at h1
        rw [hc _ _ h1.1, ih m h1.2]
  exact String.ext_iff.mpr h2
/-- an address set to be avoided -/
abbrev AS := Addr → Prop
/-- a key of a dict of numbers and texts -/
def kvK : D → Option Key
  | .int i => some (.inl i)
  | .str s => some (.inr (Str.ofString s))
  | _ => none
mutual
/-- a key, nested -/
def nk : D → Option NestedKey
  | .non => some .none
  | .bl b => some (.num (b2i b))
  | .int i => some (.num i)
  | .str s => some (.text (Str.ofString s))
  | .tup xs => (nkL xs).map .tup
  | _ => none
def nkL : List D → Option (List NestedKey)
  | [] => some []
  | d :: r => match nk d, nkL r with | some k, some ks => some (k :: ks) | _, _ => none
end
def entW (w : World) (x : NestedKey × Addr × Value) : DictEntry := ⟨x.1.hash w, .ref x.2.1, x.2.2⟩
/-- what a dict with tuple keys holds; its table as it stands -/
abbrev E3 := List (NestedKey × Addr × V) × (Array DictEntry × Nat)
def dicT (a : Addr) (es : E3) : HO := .ext fun h => (a == sysModules) = false ∧ es.1.length ≤ sizeLine ∧ ∃ xs : List (NestedKey × Addr × Value), Paired (fun p q => p.1 = q.1 ∧ p.2.1 = q.2.1 ∧ RelV p.2.2 q.2.2) es.1 xs ∧
  ∃ o, h.get? a = some o ∧ o.ExactDict ∧ o.data = .dict es.2.1 es.2.2 ∧ es.2.1.toList = xs.map (entW WI.w) ∧ (xs.map (·.1)).Nodup
/-- a pool of draws: the script's numbers at a0, a place in them, what is left of a cell, the mixer (k: and a count) -/
def PoolV (k : Bool) (a0 : Addr) : List V → Prop := fun vs => match k with
  | false => ∃ p c m : Int, vs = [.ref a0, .int p, .int c, .int m] ∧ 0 ≤ p ∧ 0 ≤ m ∧ m < 2147483647
  | true => ∃ p c j m : Int, vs = [.ref a0, .int p, .int c, .int j, .int m] ∧ 0 ≤ p ∧ 0 ≤ m ∧ m < 2147483647
def poolO (k : Bool) (a a0 : Addr) : HO := .ext fun h => ∃ (vs : List V) (its : List Value) (n : Nat), PoolV k a0 vs ∧ Vals vs its ∧ h.get? a = some { cls := .type "list", data := .seq its.toArray n }
mutual
def Rep (K : Frag) (A : AS) (H : Hp) : D → V → Prop
  | .non, v => v = .non
  | .bl b, v => v = .bl b
  | .int i, v => v = .int i
  | .str s, v => v = .str (Str.ofString s)
  | .tup xs, v => ∃ a vs, v = .ref a ∧ SqT K H a vs ∧ RepL K A H xs vs
  | .lst xs, v => ∃ a vs, v = .ref a ∧ ¬ A a ∧ Rd H a (.lst vs) ∧ RepL K A H xs vs
  | .dic t kvs, v => ∃ a, v = .ref a ∧ ¬ A a ∧ ((t = false ∧ ∃ ks, H a = some (.dK ks) ∧ RepK K A H kvs ks) ∨ (t = true ∧ ∃ es, H a = some (dicT a es) ∧ RepT K A H kvs es.1))
  | .ins c fs, v => ∃ a dx fvs, v = .ref a ∧ ¬ A a ∧ H a = some (.ins (ca K c) dx fvs) ∧ RepF K A H fs fvs
  | .drw (.inr q), v => v = .ref q.1 ∧ ¬ A q.1 ∧ Rd H q.1 (.lst (q.2.map V.int))
  | .drw (.inl k), v => ∃ a a0 xs, v = .ref a ∧ ¬ A a ∧ H a = some (poolO k a a0) ∧ ¬ A a0 ∧ Rd H a0 (.lst ((xs : List Int).map V.int))
def RepL (K : Frag) (A : AS) (H : Hp) : List D → List V → Prop
  | [], vs => vs = []
  | d :: ds, vs => ∃ v r, vs = v :: r ∧ Rep K A H d v ∧ RepL K A H ds r
def RepF (K : Frag) (A : AS) (H : Hp) : List (String × D) → List (Str × V) → Prop
  | [], fs => fs = []
  | (n, d) :: r, fs => ∃ v q, fs = (Str.ofString n, v) :: q ∧ Rep K A H d v ∧ RepF K A H r q
def RepK (K : Frag) (A : AS) (H : Hp) : List (D × D) → List (Key × V) → Prop
  | [], ks => ks = []
  | (k, d) :: r, ks => ∃ c v q, ks = (c, v) :: q ∧ kvK k = some c ∧ Rep K A H d v ∧ RepK K A H r q
def RepT (K : Frag) (A : AS) (H : Hp) : List (D × D) → List (NestedKey × Addr × V) → Prop
  | [], es => es = []
  | (k, d) :: r, es => ∃ c b v q, es = (c, b, v) :: q ∧ (nk k = some c ∧ keyOk true k = true) ∧ Rep K A H k (.ref b) ∧ Rep K A H d v ∧ RepT K A H r q
end
/-- what a dict at a holds -/
def DicAt (K : Frag) (A : AS) (H : Hp) (a : Addr) (t : Bool) (kvs : List (D × D)) : Prop := (t = false ∧ ∃ ks, H a = some (.dK ks) ∧ RepK K A H kvs ks) ∨ (t = true ∧ ∃ es, H a = some (dicT a es) ∧ RepT K A H kvs es.1)
theorem rep_dic {K : Frag} {A : AS} {H : Hp} {t : Bool} {kvs : List (D × D)} {v : V} : Rep K A H (.dic t kvs) v ↔ ∃ a, v = .ref a ∧ ¬ A a ∧ DicAt K A H a t kvs := by
  simp only [Rep]
  exact Iff.rfl
/-- a tuple never changes -/
def still : HO → Prop
  | .tup _ => True
  | .frz _ (.tup _) => True
  | _ => False
/-- from H to H': what is not in A is kept, the new A' has of the old heap only A -/
structure Mv (A : AS) (H : Hp) (A' : AS) (H' : Hp) : Prop where
  av : ∀ a, A' a → A a ∨ H a = none
  kp : ∀ a o, H a = some o → (¬ A a ∨ still o) → H' a = some o
theorem Mv.same {A : AS} {H H' : Hp} (s : Same H H') : Mv A H A H' := ⟨fun _ h => .inl h, fun a o e _ => s a o e⟩
theorem Mv.less {A A' : AS} {H : Hp} (s : ∀ a, A' a → A a) : Mv A H A' H := ⟨fun a h => .inl (s a h), fun _ _ e _ => e⟩
theorem Mv.refl {A : AS} {H : Hp} : Mv A H A H := .same (Same.refl H)
theorem Mv.trans {A A1 A2 : AS} {H H1 H2 : Hp} (h : Mv A H A1 H1) (k : Mv A1 H1 A2 H2) : Mv A H A2 H2 := by
  refine ⟨fun a x => ?_, fun a o e q => ?_⟩
  · rcases k.av a x with y | y
    · exact h.av a y
    · cases e : H a with
      | none => exact .inr rfl
      | some o =>
        by_cases hA : A a
        · exact .inl hA
        · rw [h.kp a o e (.inl hA)] at y
          cases y
  · refine k.kp a o (h.kp a o e q) ?_
    rcases q with q | q
    · refine .inl fun y => ?_
      rcases h.av a y with z | z
      · exact q z
      · rw [e] at z
        cases z
    · exact .inr q
theorem Rd.move {A A' : AS} {H H' : Hp} {a : Addr} {u : HO} (m : Mv A H A' H') (h : Rd H a u) (n : ¬ A a) : Rd H' a u ∧ ¬ A' a := by
  have key : ∀ o, H a = some o → H' a = some o ∧ ¬ A' a := fun o e => ⟨m.kp a o e (.inl n), fun x => by
    rcases m.av a x with y | y
    · exact n y
    · rw [e] at y
      cases y⟩
  rcases h with h | ⟨o, h⟩
  · exact ⟨.inl (key _ h).1, (key _ h).2⟩
  · exact ⟨.inr ⟨o, (key _ h).1⟩, (key _ h).2⟩
theorem SqT.move {K : Frag} {A A' : AS} {H H' : Hp} {a : Addr} {vs : List V} (m : Mv A H A' H') (h : SqT K H a vs) : SqT K H' a vs := by
  rcases h with (h | ⟨o, h⟩) | h
  · exact .inl (.inl (m.kp a _ h (.inr trivial)))
  · exact .inl (.inr ⟨o, m.kp a _ h (.inr trivial)⟩)
  · exact .inr h
mutual
theorem Rep.move {K : Frag} {A A' : AS} {H H' : Hp} (m : Mv A H A' H') : ∀ (d : D) (v : V), Rep K A H d v → Rep K A' H' d v
  | .non, _, h => h
  | .bl _, _, h => h
  | .int _, _, h => h
  | .str _, _, h => h
  | .tup xs, v, h => by
    simp only [Rep] at h ⊢
    obtain ⟨a, vs, e, q, r⟩ := h
    exact ⟨a, vs, e, SqT.move m q, RepL.move m xs vs r⟩
  | .lst xs, v, h => by
    simp only [Rep] at h ⊢
    obtain ⟨a, vs, e, n, q, r⟩ := h
    exact ⟨a, vs, e, (Rd.move m q n).2, (Rd.move m q n).1, RepL.move m xs vs r⟩
  | .dic t kvs, v, h => by
    simp only [Rep] at h ⊢
    obtain ⟨a, e, n, ⟨ht, ks, q, r⟩ | ⟨ht, es, q, r⟩⟩ := h
    · have z := Rd.move m (.inl q) n
      exact ⟨a, e, z.2, .inl ⟨ht, ks, m.kp a _ q (.inl n), RepK.move m kvs ks r⟩⟩
    · have z := Rd.move m (.inl q) n
      exact ⟨a, e, z.2, .inr ⟨ht, es, m.kp a _ q (.inl n), RepT.move m kvs es.1 r⟩⟩
  | .ins c fs, v, h => by
    simp only [Rep] at h ⊢
    obtain ⟨a, dx, fvs, e, n, q, r⟩ := h
    have z : Rd H' a _ ∧ ¬ A' a := Rd.move m (.inl q) n
    refine ⟨a, dx, fvs, e, z.2, ?_, RepF.move m fs fvs r⟩
    exact m.kp a _ q (.inl n)
  | .drw (.inr q), v, h => by
    simp only [Rep] at h ⊢
    exact ⟨h.1, (Rd.move m h.2.2 h.2.1).2, (Rd.move m h.2.2 h.2.1).1⟩
  | .drw (.inl k), v, h => by
    simp only [Rep] at h ⊢
    obtain ⟨a, a0, xs, e, n, q, n0, r⟩ := h
    have z : Rd H' a _ ∧ ¬ A' a := Rd.move m (.inl q) n
    exact ⟨a, a0, xs, e, z.2, m.kp a _ q (.inl n), (Rd.move m r n0).2, (Rd.move m r n0).1⟩
theorem RepL.move {K : Frag} {A A' : AS} {H H' : Hp} (m : Mv A H A' H') : ∀ (ds : List D) (vs : List V), RepL K A H ds vs → RepL K A' H' ds vs
  | [], vs, h => by
    simp only [RepL] at h ⊢
    exact h
  | d :: ds, vs, h => by
    simp only [RepL] at h ⊢
    obtain ⟨v, r, e, h1, h2⟩ := h
    exact ⟨v, r, e, Rep.move m d v h1, RepL.move m ds r h2⟩
theorem RepF.move {K : Frag} {A A' : AS} {H H' : Hp} (m : Mv A H A' H') : ∀ (ds : List (String × D)) (vs : List (Str × V)), RepF K A H ds vs → RepF K A' H' ds vs
  | [], vs, h => by
    simp only [RepF] at h ⊢
    exact h
  | (n, d) :: ds, vs, h => by
    simp only [RepF] at h ⊢
    obtain ⟨v, r, e, h1, h2⟩ := h
    exact ⟨v, r, e, Rep.move m d v h1, RepF.move m ds r h2⟩
theorem RepK.move {K : Frag} {A A' : AS} {H H' : Hp} (m : Mv A H A' H') : ∀ (ds : List (D × D)) (vs : List (Key × V)), RepK K A H ds vs → RepK K A' H' ds vs
  | [], vs, h => by
    simp only [RepK] at h ⊢
    exact h
  | (k, d) :: ds, vs, h => by
    simp only [RepK] at h ⊢
    obtain ⟨c, v, r, e, h0, h1, h2⟩ := h
    exact ⟨c, v, r, e, h0, Rep.move m d v h1, RepK.move m ds r h2⟩
theorem RepT.move {K : Frag} {A A' : AS} {H H' : Hp} (m : Mv A H A' H') : ∀ (ds : List (D × D)) (vs : List (NestedKey × Addr × V)), RepT K A H ds vs → RepT K A' H' ds vs
  | [], vs, h => by
    simp only [RepT] at h ⊢
    exact h
  | (k, d) :: ds, vs, h => by
    simp only [RepT] at h ⊢
    obtain ⟨c, b, v, r, e, h0, h1, h2, h3⟩ := h
    exact ⟨c, b, v, r, e, h0, Rep.move m k _ h1, Rep.move m d v h2, RepT.move m ds r h3⟩
end
theorem DicAt.move {K : Frag} {A A' : AS} {H H' : Hp} {a : Addr} {t : Bool} {kvs : List (D × D)} (m : Mv A H A' H') (k : H' a = H a) (h : DicAt K A H a t kvs) : DicAt K A' H' a t kvs := by
  rcases h with ⟨ht, ks, q, r⟩ | ⟨ht, es, q, r⟩
  · exact .inl ⟨ht, ks, k.trans q, RepK.move m kvs ks r⟩
  · exact .inr ⟨ht, es, k.trans q, RepT.move m kvs es.1 r⟩
theorem RepL.length {K : Frag} {A : AS} {H : Hp} : ∀ {ds : List D} {vs : List V}, RepL K A H ds vs → ds.length = vs.length
  | [], vs, h => by
    simp only [RepL] at h
    subst h
    rfl
  | d :: ds, vs, h => by
    simp only [RepL] at h
    obtain ⟨v, r, rfl, h1, h2⟩ := h
    simp [RepL.length h2]
theorem RepL.get {K : Frag} {A : AS} {H : Hp} : ∀ {ds : List D} {vs : List V} {i : Nat} {d : D}, RepL K A H ds vs → ds[i]? = some d → ∃ v, vs[i]? = some v ∧ Rep K A H d v
  | [], vs, i, d, h, e => by simp at e
  | d0 :: ds, vs, i, d, h, e => by
    simp only [RepL] at h
    obtain ⟨v, r, rfl, h1, h2⟩ := h
    cases i with
    | zero =>
      simp at e
      subst e
      exact ⟨v, rfl, h1⟩
    | succ i =>
      obtain ⟨w, q1, q2⟩ := RepL.get (i := i) h2 (by simpa using e)
      exact ⟨w, by simpa using q1, q2⟩
theorem RepL.append {K : Frag} {A : AS} {H : Hp} : ∀ {ds es : List D} {vs ws : List V}, RepL K A H ds vs → RepL K A H es ws → RepL K A H (ds ++ es) (vs ++ ws)
  | [], es, vs, ws, h, k => by
    simp only [RepL] at h
    subst h
    exact k
  | d :: ds, es, vs, ws, h, k => by
    simp only [RepL] at h
    obtain ⟨v, r, rfl, h1, h2⟩ := h
    simp only [List.cons_append, RepL]
    exact ⟨v, r ++ ws, rfl, h1, RepL.append h2 k⟩
theorem RepL.drop {K : Frag} {A : AS} {H : Hp} : ∀ {ds : List D} {vs : List V} (n : Nat), RepL K A H ds vs → RepL K A H (ds.drop n) (vs.drop n)
  | ds, vs, 0, h => h
  | [], vs, n + 1, h => by
    simp only [RepL] at h
    subst h
    simp [RepL]
  | d :: ds, vs, n + 1, h => by
    simp only [RepL] at h
    obtain ⟨v, r, rfl, h1, h2⟩ := h
    exact RepL.drop n h2
theorem RepL.take {K : Frag} {A : AS} {H : Hp} : ∀ {ds : List D} {vs : List V} (n : Nat), RepL K A H ds vs → RepL K A H (ds.take n) (vs.take n)
  | ds, vs, 0, h => by simp [RepL]
  | [], vs, n + 1, h => by
    simp only [RepL] at h
    subst h
    simp [RepL]
  | d :: ds, vs, n + 1, h => by
    simp only [RepL] at h
    obtain ⟨v, r, rfl, h1, h2⟩ := h
    simp only [List.take_succ_cons, RepL]
    exact ⟨v, _, rfl, h1, RepL.take n h2⟩
theorem RepL.set {K : Frag} {A : AS} {H : Hp} {d : D} {v : V} (hd : Rep K A H d v) : ∀ {ds : List D} {vs : List V} (n : Nat), RepL K A H ds vs → RepL K A H (ds.set n d) (vs.set n v)
  | [], vs, n, h => by
    simp only [RepL] at h
    subst h
    simp [RepL]
  | d0 :: ds, vs, 0, h => by
    simp only [RepL] at h
    obtain ⟨w, r, rfl, h1, h2⟩ := h
    simp only [List.set_cons_zero, RepL]
    exact ⟨v, r, rfl, hd, h2⟩
  | d0 :: ds, vs, n + 1, h => by
    simp only [RepL] at h
    obtain ⟨w, r, rfl, h1, h2⟩ := h
    simp only [List.set_cons_succ, RepL]
    exact ⟨w, _, rfl, h1, RepL.set hd n h2⟩
theorem RepL.one {K : Frag} {A : AS} {H : Hp} {d : D} {v : V} (h : Rep K A H d v) : RepL K A H [d] [v] := by
  simp only [RepL]
  exact ⟨v, [], rfl, h, rfl⟩
theorem RepF.look {K : Frag} {A : AS} {H : Hp} {f : String} : ∀ {fs : List (String × D)} {vs : List (Str × V)}, RepF K A H fs vs →
    match fs.lookup f with | some d => ∃ v, vs.lookup (Str.ofString f) = some v ∧ Rep K A H d v | none => vs.lookup (Str.ofString f) = none
  | [], vs, h => by
    simp only [RepF] at h
    subst h
    rfl
  | (n, d) :: fs, vs, h => by
    simp only [RepF] at h
    obtain ⟨v, r, rfl, h1, h2⟩ := h
    by_cases e : f = n
    · subst e
      simp only [List.lookup_cons, beq_self_eq_true]
      exact ⟨v, rfl, h1⟩
    · have e2 : (Str.ofString f == Str.ofString n) = false := beq_eq_false_iff_ne.mpr fun q => e (ofS_inj q)
      have e3 : (f == n) = false := beq_eq_false_iff_ne.mpr e
      simp only [List.lookup_cons, e2, e3]
      exact RepF.look h2
theorem RepF.length {K : Frag} {A : AS} {H : Hp} : ∀ {fs : List (String × D)} {vs : List (Str × V)}, RepF K A H fs vs → fs.length = vs.length
  | [], vs, h => by
    simp only [RepF] at h
    subst h
    rfl
  | (n, d) :: fs, vs, h => by
    simp only [RepF] at h
    obtain ⟨v, r, rfl, h1, h2⟩ := h
    simp [RepF.length h2]
/-! ### the frame -/
/-- what a name's own list or dict at a holds -/
def OwnAt (K : Frag) (A : AS) (H : Hp) (a : Addr) : D → Prop
  | .lst ds => ∃ vs, H a = some (.lst vs) ∧ RepL K A H ds vs
  | .dic t kvs => DicAt K A H a t kvs
  | _ => False
theorem OwnAt.move {K : Frag} {A A' : AS} {H H' : Hp} {a : Addr} {d : D} (m : Mv A H A' H') (k : H' a = H a) (h : OwnAt K A H a d) : OwnAt K A' H' a d := by
  cases d with
  | lst ds =>
    obtain ⟨vs, e, r⟩ := h
    exact ⟨vs, k.trans e, RepL.move m _ _ r⟩
  | dic t kvs => exact DicAt.move m k h
  | _ => exact h
theorem OwnAt.obj {K : Frag} {A : AS} {H : Hp} {a : Addr} {d : D} (h : OwnAt K A H a d) : ∃ u, H a = some u ∧ ¬ still u ∧ ∀ fvs, u ≠ .xd fvs := by
  cases d with
  | lst ds =>
    obtain ⟨vs, e, _⟩ := h
    exact ⟨_, e, fun z => z, fun _ z => nomatch z⟩
  | dic t kvs =>
    rcases h with ⟨_, ks, e, _⟩ | ⟨_, es, e, _⟩
    · exact ⟨_, e, fun z => z, fun _ z => nomatch z⟩
    · exact ⟨_, e, fun z => z, fun _ z => nomatch z⟩
  | _ => exact h.elim
/-- what is owned is a value for those who leave it alone -/
theorem OwnAt.rep {K : Frag} {A A' : AS} {H : Hp} {a : Addr} {d : D} (m : Mv A H A' H) (n : ¬ A' a) (h : OwnAt K A H a d) : Rep K A' H d (.ref a) := by
  cases d with
  | lst ds =>
    obtain ⟨vs, e, r⟩ := h
    simp only [Rep]
    exact ⟨a, vs, rfl, n, .inl e, RepL.move m _ _ r⟩
  | dic t kvs => exact rep_dic.mpr ⟨a, rfl, n, DicAt.move m rfl h⟩
  | _ => exact h.elim
/-- the fields of an own instance that hold an inner object of its own -/
def inn (c f : String) : Bool := (c == "Builder" && (f == "deeds" || f == "numbers")) || (c == "PlainMaker" && f == "deeds") || (c == "Desk" && f == "kept")
def ixF (f : String) : Bool := f == "numbers"
abbrev GW := Bool → Option Addr
/-- an own instance's field; G: its inner objects -/
def FldI (K : Frag) (A : AS) (G : GW) (H : Hp) (n : String) (d : D) (v : V) : Bool → Prop
  | true => ∃ b, G (ixF n) = some b ∧ v = .ref b ∧ OwnAt K A H b d
  | false => Rep K A H d v
def RepI (K : Frag) (A : AS) (G : GW) (H : Hp) (c : String) : List (String × D) → List (Str × V) → Prop
  | [], fs => fs = []
  | (n, d) :: r, fs => ∃ v q, fs = (Str.ofString n, v) :: q ∧ FldI K A G H n d v (inn c n) ∧ RepI K A G H c r q
/-- what a name's own object at a holds, with inner objects -/
def OwnG (K : Frag) (A : AS) (G : GW) (H : Hp) (a : Addr) : D → Prop
  | .lst ds => ∃ vs, H a = some (.lst vs) ∧ RepL K A H ds vs
  | .ins c fs => ∃ dx fvs, H a = some (.ins (ca K c) dx fvs) ∧ RepI K A G H c fs fvs
  | .dic t kvs => DicAt K A H a t kvs
  | _ => False
theorem OwnAt.g {K : Frag} {A : AS} {G : GW} {H : Hp} {a : Addr} {d : D} (h : OwnAt K A H a d) : OwnG K A G H a d := by
  cases d <;> first | exact h | exact h.elim
theorem RepI.move {K : Frag} {A A' : AS} {G G' : GW} {H H' : Hp} {c : String} (m : Mv A H A' H') (kg : ∀ t b, G t = some b → G' t = some b ∧ H' b = H b) : ∀ {fs : List (String × D)} {vs : List (Str × V)}, RepI K A G H c fs vs → RepI K A' G' H' c fs vs
  | [], vs, h => h
  | (n, d) :: fs, vs, h => by
    obtain ⟨v, q, e, h1, h2⟩ := h
    refine ⟨v, q, e, ?_, RepI.move m kg h2⟩
    cases hi : inn c n with
    | true =>
      rw [hi] at h1
      obtain ⟨b, g, e2, o⟩ := h1
      exact ⟨b, (kg _ _ g).1, e2, o.move m (kg _ _ g).2⟩
    | false =>
      rw [hi] at h1
      exact Rep.move m d v h1
theorem RepI.rep {K : Frag} {A A' : AS} {G : GW} {H : Hp} {c : String} (m : Mv A H A' H) (ng : ∀ t b, G t = some b → ¬ A' b) : ∀ {fs : List (String × D)} {vs : List (Str × V)}, RepI K A G H c fs vs → RepF K A' H fs vs
  | [], vs, h => by
    simp only [RepF]
    exact h
  | (n, d) :: fs, vs, h => by
    obtain ⟨v, q, e, h1, h2⟩ := h
    simp only [RepF]
    refine ⟨v, q, e, ?_, RepI.rep m ng h2⟩
    cases hi : inn c n with
    | true =>
      rw [hi] at h1
      obtain ⟨b, g, rfl, o⟩ := h1
      exact o.rep m (ng _ _ g)
    | false =>
      rw [hi] at h1
      exact Rep.move m d v h1
theorem RepI.length {K : Frag} {A : AS} {G : GW} {H : Hp} {c : String} : ∀ {fs : List (String × D)} {vs : List (Str × V)}, RepI K A G H c fs vs → fs.length = vs.length
  | [], vs, h => by
    cases h
    rfl
  | (n, d) :: fs, vs, h => by
    obtain ⟨v, q, rfl, h1, h2⟩ := h
    simp [RepI.length h2]
theorem RepI.put {K : Frag} {A : AS} {G : GW} {H : Hp} {c f : String} {d : D} {v : V} (hd : FldI K A G H f d v (inn c f)) : ∀ {fs : List (String × D)} {vs : List (Str × V)}, RepI K A G H c fs vs → RepI K A G H c (putF f d fs) (L2.putF (Str.ofString f) v vs)
  | [], vs, h => by
    cases h
    exact ⟨v, [], rfl, hd, rfl⟩
  | (n, d0) :: fs, vs, h => by
    obtain ⟨w, r, rfl, h1, h2⟩ := h
    by_cases e : n = f
    · subst e
      simp only [putF, L2.putF, if_pos]
      exact ⟨v, r, rfl, hd, h2⟩
    · have e2 : ¬ Str.ofString n = Str.ofString f := fun q => e (ofS_inj q)
      simp only [putF, L2.putF, if_neg e, if_neg e2]
      exact ⟨w, _, rfl, h1, RepI.put hd h2⟩
theorem RepI.look {K : Frag} {A : AS} {G : GW} {H : Hp} {c f : String} : ∀ {fs : List (String × D)} {vs : List (Str × V)} {d : D}, RepI K A G H c fs vs → fs.lookup f = some d → ∃ v, vs.lookup (Str.ofString f) = some v ∧ FldI K A G H f d v (inn c f)
  | [], vs, d, h, z => by cases z
  | (n, d0) :: fs, vs, d, h, z => by
    obtain ⟨v, r, rfl, h1, h2⟩ := h
    by_cases e : f = n
    · subst e
      simp only [List.lookup_cons, beq_self_eq_true, Option.some.injEq] at z ⊢
      subst z
      exact ⟨v, rfl, h1⟩
    · have e2 : (Str.ofString f == Str.ofString n) = false := beq_eq_false_iff_ne.mpr fun q => e (ofS_inj q)
      have e3 : (f == n) = false := beq_eq_false_iff_ne.mpr e
      simp only [List.lookup_cons, e2, e3] at z ⊢
      exact RepI.look h2 z
theorem OwnG.move {K : Frag} {A A' : AS} {G G' : GW} {H H' : Hp} {a : Addr} {d : D} (m : Mv A H A' H') (k : H' a = H a) (kg : ∀ t b, G t = some b → G' t = some b ∧ H' b = H b) (h : OwnG K A G H a d) : OwnG K A' G' H' a d := by
  cases d with
  | lst ds =>
    obtain ⟨vs, e, r⟩ := h
    exact ⟨vs, k.trans e, RepL.move m _ _ r⟩
  | ins c fs =>
    obtain ⟨dx, fvs, e, r⟩ := h
    exact ⟨dx, fvs, k.trans e, r.move m kg⟩
  | dic t kvs => exact DicAt.move m k h
  | _ => exact h
theorem OwnG.obj {K : Frag} {A : AS} {G : GW} {H : Hp} {a : Addr} {d : D} (h : OwnG K A G H a d) : ∃ u, H a = some u ∧ ¬ still u ∧ ∀ fvs, u ≠ .xd fvs := by
  cases d with
  | lst ds => exact OwnAt.obj (d := .lst ds) h
  | ins c fs =>
    obtain ⟨dx, fvs, e, _⟩ := h
    exact ⟨_, e, fun z => z, fun _ z => nomatch z⟩
  | dic t kvs => exact OwnAt.obj (d := .dic t kvs) h
  | _ => exact h.elim
/-- what is owned is a value for those who leave it alone -/
theorem OwnG.rep {K : Frag} {A A' : AS} {G : GW} {H : Hp} {a : Addr} {d : D} (m : Mv A H A' H) (n : ¬ A' a) (ng : ∀ t b, G t = some b → ¬ A' b) (h : OwnG K A G H a d) : Rep K A' H d (.ref a) := by
  cases d with
  | lst ds => exact OwnAt.rep (d := .lst ds) m n h
  | ins c fs =>
    obtain ⟨dx, fvs, e, r⟩ := h
    simp only [Rep]
    exact ⟨a, dx, fvs, rfl, n, e, r.rep m ng⟩
  | dic t kvs => exact OwnAt.rep (d := .dic t kvs) m n h
  | _ => exact h.elim
abbrev OW := Nat → Option Addr
/-- slot i's object stands at place 3 i, its inner ones behind it -/
def gh (O : OW) (i : Nat) : GW := fun t => O (3 * i + if t then 2 else 1)
def AO (A : AS) (O : OW) : AS := fun a => A a ∨ ∃ i, O i = some a
/-- the heap at the entry; the object that slot 0 owns throughout (an __init__'s self) -/
structure Base where
  hp : Hp
  px : Option Addr
/-- what is known of a caught error: the slot of its name, where it stands, where its dict stands, what that holds -/
structure Xh where
  i : Nat
  a : Addr
  da : Addr
  fs : List (String × D)
/-- which names own; in an except suite: the caught error -/
structure Ow where
  f : Nat → Bool
  x : Option Xh
instance : CoeFun Ow (fun _ => Nat → Bool) := ⟨Ow.f⟩
@[reducible] def Ow.off (o : Ow) : Ow := ⟨fun i => match o.x with | some q => i == q.i | none => false, o.x⟩
structure XAt (K : Frag) (A : AS) (H : Hp) (σ : L2.St) (e : Env) (f : Nat → Bool) (q : Xh) : Prop where
  own : f q.i = true
  slot : σ[q.i]? = some (some (.ref q.a))
  no : ∀ d, e[q.i]? ≠ some (some d)
  xd : ∃ fvs, H q.da = some (.xd fvs) ∧ RepF K A H q.fs fvs
def XFact (K : Frag) (A : AS) (H : Hp) (σ : L2.St) (e : Env) (o : Ow) : Prop := ∀ q, o.x = some q → XAt K A H σ e o.f q
theorem XFact.none {K : Frag} {A : AS} {H : Hp} {σ : L2.St} {e : Env} {o : Ow} (h : o.x = none) : XFact K A H σ e o := fun q z => by
  rw [h] at z
  cases z
theorem XFact.move {K : Frag} {A A' : AS} {H H' : Hp} {σ σ' : L2.St} {e e' : Env} {o : Ow} (m : Mv A H A' H') (k : ∀ da fvs, H da = some (.xd fvs) → H' da = some (.xd fvs)) (s : ∀ i, o i = true → (∀ d, e[i]? ≠ some (some d)) → σ'[i]? = σ[i]? ∧ ∀ d, e'[i]? ≠ some (some d))
    (h : XFact K A H σ e o) : XFact K A' H' σ' e' o := fun q hq => by
  obtain ⟨h1, h2, h3, fvs, h4, h5⟩ := h q hq
  obtain ⟨s1, s2⟩ := s q.i h1 h3
  exact ⟨h1, s1.trans h2, s2, fvs, k _ _ h4, RepF.move m _ _ h5⟩
theorem XFact.heap {K : Frag} {A A' : AS} {H H' : Hp} {σ : L2.St} {e : Env} {o : Ow} (m : Mv A H A' H') (k : ∀ da fvs, H da = some (.xd fvs) → H' da = some (.xd fvs)) (h : XFact K A H σ e o) : XFact K A' H' σ e o := h.move m k fun i _ n => ⟨rfl, n⟩
/-- the frame's slots hold these data; ow: the names that own what they hold; H0: the heap at the entry -/
structure ER (K : Frag) (A : AS) (H0 : Base) (ow : Ow) (O : OW) (σ : L2.St) (H : Hp) (e : Env) : Prop where
  len : σ.length = e.length
  a0 : ∀ a, A a → H a ≠ none
  same : Same H0.hp H
  vals : ∀ i d, e[i]? = some (some d) → ow i = false → ∃ v, σ[i]? = some (some v) ∧ Rep K (AO A O) H d v
  owns : ∀ i d, e[i]? = some (some d) → ow i = true → ∃ a, O (3 * i) = some a ∧ σ[i]? = some (some (.ref a)) ∧ OwnG K (AO A O) (gh O i) H a d
  fresh : ∀ i a, O i = some a → H0.hp a = none ∧ H a ≠ none ∧ ¬ A a
  inj : ∀ i j a, O i = some a → O j = some a → i = j
  pin : ∀ a, H0.px = some a → O 0 = some a
  exq : XFact K (AO A O) H σ e ow
section
variable {K : Frag} {A : AS} {H0 : Base} {ow : Ow} {O : OW} {σ : L2.St} {H H' : Hp} {e : Env}
theorem ne_none {H H' : Hp} {a : Addr} (s : Same H H') (h : H a ≠ none) : H' a ≠ none := by
  cases q : H a with
  | none => exact absurd q h
  | some o =>
    rw [s a o q]
    exact fun z => nomatch z
theorem ER.there (R : ER K A H0 ow O σ H e) : ∀ a, AO A O a → H a ≠ none := fun a h => by
  rcases h with h | ⟨i, h⟩
  · exact R.a0 a h
  · exact (R.fresh i a h).2.1
theorem ER.kept (R : ER K A H0 ow O σ H e) (s : Same H H') {i : Nat} {a : Addr} (h : O i = some a) : H' a = H a := by
  cases z : H a with
  | none => exact absurd z (R.fresh i a h).2.1
  | some o => exact s a o z
theorem ER.to (R : ER K A H0 ow O σ H e) (s : Same H H') : ER K A H0 ow O σ H' e :=
  ⟨R.len, fun a h => ne_none s (R.a0 a h), R.same.trans s, fun i d h1 h2 => let ⟨v, q, r⟩ := R.vals i d h1 h2; ⟨v, q, Rep.move (Mv.same s) d v r⟩,
    fun i d h1 h2 => let ⟨a, q, q2, r⟩ := R.owns i d h1 h2; ⟨a, q, q2, r.move (Mv.same s) (R.kept s q) fun t b z => ⟨z, R.kept s z⟩⟩,
    fun i a h => ⟨(R.fresh i a h).1, ne_none s (R.fresh i a h).2.1, (R.fresh i a h).2.2⟩, R.inj, R.pin, R.exq.heap (Mv.same s) fun da fvs e => s _ _ e⟩
/-- a name takes a value -/
theorem ER.set (R : ER K A H0 ow O σ H e) {i : Nat} {d : D} {v : V} (hi : ow i = false) (r : Rep K (AO A O) H d v) : ER K A H0 ow O (σ.set i (some v)) H (e.set i (some d)) := by
  refine ⟨by simp [R.len], R.a0, R.same, fun j d' h1 h2 => ?_, fun j d' h1 h2 => ?_, R.fresh, R.inj, R.pin, R.exq.move Mv.refl (fun _ _ e => e) fun j hj n => ?_⟩
  rotate_right
  · have hne : i ≠ j := fun z => by
      rw [z, hj] at hi
      cases hi
    rw [List.getElem?_set_ne hne, List.getElem?_set_ne hne]
    exact ⟨rfl, n⟩
  · by_cases hj : i = j
    · subst hj
      have hl : i < e.length := by
        have := (List.getElem?_eq_some_iff.mp h1).1
        simpa using this
      rw [List.getElem?_set_self hl] at h1
      cases h1
      exact ⟨v, List.getElem?_set_self (by rw [R.len]; exact hl), r⟩
    · rw [List.getElem?_set_ne hj] at h1
      rw [List.getElem?_set_ne hj]
      exact R.vals j d' h1 h2
  · have hj : i ≠ j := fun z => by
      subst z
      rw [hi] at h2
      cases h2
    rw [List.getElem?_set_ne hj] at h1
    rw [List.getElem?_set_ne hj]
    exact R.owns j d' h1 h2
/-- names forgotten -/
theorem ER.sub {e' : Env} {σ' : L2.St} (R : ER K A H0 ow O σ H e) (hl : σ'.length = e'.length) (h : ∀ (i : Nat) (d : D), e'[i]? = some (some d) → e[i]? = some (some d) ∧ σ'[i]? = σ[i]?) (hx : ∀ q : Xh, ow.x = some q → σ'[q.i]? = σ[q.i]?) : ER K A H0 ow O σ' H e' :=
  ⟨hl, R.a0, R.same, fun i d h1 h2 => by rw [(h i d h1).2]; exact R.vals i d (h i d h1).1 h2, fun i d h1 h2 => by rw [(h i d h1).2]; exact R.owns i d (h i d h1).1 h2, R.fresh, R.inj, R.pin, fun q hq => by
    obtain ⟨h1, h2, h3, h4⟩ := R.exq q hq
    exact ⟨h1, (hx q hq).trans h2, fun d z => h3 d (h _ d z).1, h4⟩⟩
end
theorem wipe_env (vs : List Nat) (e : Env) (i : Nat) (d : D) (h : (wipe e vs)[i]? = some (some d)) : e[i]? = some (some d) ∧ i ∉ vs := by
  induction vs with
  | nil => exact ⟨h, by simp⟩
  | cons j r ih =>
    unfold wipe at h
    by_cases hj : j = i
    · subst hj
      by_cases hl : j < (wipe e r).length
      · rw [List.getElem?_set_self hl] at h
        cases h
      · rw [List.getElem?_eq_none (by simp; omega)] at h
        cases h
    · rw [List.getElem?_set_ne hj] at h
      obtain ⟨a, b⟩ := ih h
      exact ⟨a, by simp [b, Ne.symm hj]⟩
theorem wipe_len (vs : List Nat) (e : Env) : (wipe e vs).length = e.length := by
  induction vs with
  | nil => rfl
  | cons j r ih => unfold wipe; simp [ih]
theorem ER.wipe {K : Frag} {A : AS} {H0 : Base} {ow : Ow} {O : OW} {σ : L2.St} {H : Hp} {e : Env} (R : ER K A H0 ow O σ H e) (vs : List Nat) (hx : ow.x = none) : ER K A H0 ow O (L2.wipe σ vs) H (Py.wipe e vs) :=
  R.sub (by rw [L2.wipe_length, wipe_len, R.len]) (fun i d h => ⟨(wipe_env vs e i d h).1, L2.wipe_out (wipe_env vs e i d h).2⟩) fun q hq => by
    rw [hx] at hq
    cases hq
/-! ### readings -/
def Out {α : Type} (r : Res α) (good : α → Prop) (bad : String → List (String × D) → Prop) : Prop := match r with
  | .ok a => good a
  | .exc c fs => bad c fs
  | .stuck => False
  | .pick n k => ∀ i, i ≤ n → Out (k i) good bad
/-- a may come of it -/
def Res.leaf {α : Type} (a : α) : Res α → Prop
  | .ok b => b = a
  | .exc _ _ => False
  | .stuck => False
  | .pick n k => ∃ i, i ≤ n ∧ Res.leaf a (k i)
theorem Out.bind {α β : Type} {r : Res α} {f : α → Res β} {good : β → Prop} {bad : String → List (String × D) → Prop} (h : Out (r >>= f) good bad) : Out r (fun a => Out (f a) good bad) bad := by
  induction r with
  | ok a => exact h
  | exc c fs => exact h
  | stuck => exact h
  | pick n k ih =>
    rw [bind_pick] at h
    exact fun i hi => ih i (h i hi)
theorem Out.imp {α : Type} {r : Res α} {good good' : α → Prop} {bad bad' : String → List (String × D) → Prop} (h : Out r good bad) (hg : ∀ a, Res.leaf a r → good a → good' a) (hb : ∀ c fs, bad c fs → bad' c fs) : Out r good' bad' := by
  induction r with
  | ok a => exact hg a rfl h
  | exc c fs => exact hb c fs h
  | stuck => exact h
  | pick n k ih => exact fun i hi => ih i (h i hi) fun a l => hg a ⟨i, hi, l⟩
theorem Out.good {α : Type} {r : Res α} {good good' : α → Prop} {bad : String → List (String × D) → Prop} (h : Out r good bad) (hg : ∀ a, good a → good' a) : Out r good' bad := h.imp (fun a _ => hg a) fun _ _ x => x
theorem Out.noexc {α : Type} {r : Res α} {good : α → Prop} {bad bad' : String → List (String × D) → Prop} (h : Out (noexc r) good bad) : Out r good bad' := by
  induction r with
  | ok a => exact h
  | exc c fs => exact h.elim
  | stuck => exact h
  | pick n k ih => exact fun i hi => ih i (h i hi)
abbrev Nev : String → List (String × D) → Prop := fun _ _ => False
theorem Out.void {α : Type} {r : Res α} (h : Out r (fun _ => False) Nev) : False := by
  induction r with
  | ok a => exact h
  | exc c fs => exact h
  | stuck => exact h
  | pick n k ih => exact ih 0 (h 0 (Nat.zero_le _))
/-- what an exception must show that leaves an expression -/
def badE (K : Frag) (W : WX) (A : AS) (O : OW) (σ : L2.St) (H : Hp) (c : String) (fs : List (String × D)) : Prop :=
  ∀ da H' fvs, Same H H' → H' da = some (.xd fvs) → RepF K (AO A O) H' fs fvs → W (.ref (ca K c)) (some da) σ H'
theorem badE.to {K : Frag} {W : WX} {A : AS} {O : OW} {σ : L2.St} {H H1 : Hp} (s : Same H H1) {c : String} {fs : List (String × D)} (h : badE K W A O σ H c fs) : badE K W A O σ H1 c fs := fun da H' fvs s' => h da H' fvs (s.trans s')
theorem Out.to {K : Frag} {W : WX} {A : AS} {O : OW} {σ : L2.St} {H H1 : Hp} {α : Type} {r : Res α} {good : α → Prop} (s : Same H H1) (h : Out r good (badE K W A O σ H)) : Out r good (badE K W A O σ H1) := h.imp (fun _ _ x => x) fun _ _ x => x.to s
/-- a value that may be a name's own list or dict: what is within it is clean -/
def RepU (K : Frag) (A : AS) (H : Hp) : D → V → Prop
  | .lst xs, v => ∃ a vs, v = .ref a ∧ Rd H a (.lst vs) ∧ RepL K A H xs vs
  | .dic t kvs, v => ∃ a, v = .ref a ∧ DicAt K A H a t kvs
  | d, v => Rep K A H d v
theorem RepU.of {K : Frag} {A : AS} {H : Hp} {d : D} {v : V} (h : Rep K A H d v) : RepU K A H d v := by
  cases d with
  | lst xs =>
    simp only [Rep] at h
    obtain ⟨a, vs, e, _, q, r⟩ := h
    exact ⟨a, vs, e, q, r⟩
  | dic t kvs =>
    obtain ⟨a, e, _, q⟩ := rep_dic.mp h
    exact ⟨a, e, q⟩
  | _ => exact h
theorem RepU.own {K : Frag} {A : AS} {H : Hp} {d : D} {b : Addr} (h : OwnAt K A H b d) : RepU K A H d (.ref b) := by
  cases d with
  | lst xs =>
    obtain ⟨vs, e, r⟩ := h
    exact ⟨b, vs, rfl, .inl e, r⟩
  | dic t kvs => exact ⟨b, rfl, h⟩
  | _ => exact h.elim
theorem RepU.none {K : Frag} {A : AS} {H : Hp} {d : D} {v : V} (h : RepU K A H d v) : Rep K (fun _ => False) H d v := by
  have z : Mv A H (fun _ => False) H := Mv.less fun _ x => x.elim
  cases d with
  | lst xs =>
    obtain ⟨a, vs, e, q, r⟩ := h
    simp only [Rep]
    exact ⟨a, vs, e, fun x => x, q, RepL.move z _ _ r⟩
  | dic t kvs =>
    obtain ⟨a, e, q⟩ := h
    exact rep_dic.mpr ⟨a, e, fun x => x, q.move z rfl⟩
  | _ => exact Rep.move z _ _ h
/-- the fields, the inner objects among them -/
def RepV (K : Frag) (A : AS) (H : Hp) (c : String) : List (String × D) → List (Str × V) → Prop
  | [], fs => fs = []
  | (n, d) :: r, fs => ∃ v q, fs = (Str.ofString n, v) :: q ∧ (match inn c n with | true => RepU K A H d v | false => Rep K A H d v) ∧ RepV K A H c r q
theorem RepV.of {K : Frag} {A : AS} {H : Hp} {c : String} : ∀ {fs : List (String × D)} {vs : List (Str × V)}, RepF K A H fs vs → RepV K A H c fs vs
  | [], vs, h => by simpa only [RepF, RepV] using h
  | (n, d) :: fs, vs, h => by
    simp only [RepF] at h
    obtain ⟨v, q, e, h1, h2⟩ := h
    refine ⟨v, q, e, ?_, RepV.of h2⟩
    cases inn c n with
    | true => exact RepU.of h1
    | false => exact h1
theorem RepV.own {K : Frag} {A : AS} {G : GW} {H : Hp} {c : String} : ∀ {fs : List (String × D)} {vs : List (Str × V)}, RepI K A G H c fs vs → RepV K A H c fs vs
  | [], vs, h => h
  | (n, d) :: fs, vs, h => by
    obtain ⟨v, q, e, h1, h2⟩ := h
    refine ⟨v, q, e, ?_, RepV.own h2⟩
    cases hi : inn c n with
    | true =>
      rw [hi] at h1
      obtain ⟨b, g, rfl, o⟩ := h1
      exact RepU.own o
    | false =>
      rw [hi] at h1
      exact h1
theorem RepV.none {K : Frag} {A : AS} {H : Hp} {c : String} : ∀ {fs : List (String × D)} {vs : List (Str × V)}, RepV K A H c fs vs → RepF K (fun _ => False) H fs vs
  | [], vs, h => by
    simp only [RepF]
    exact h
  | (n, d) :: fs, vs, h => by
    obtain ⟨v, q, e, h1, h2⟩ := h
    simp only [RepF]
    refine ⟨v, q, e, ?_, RepV.none h2⟩
    cases hi : inn c n with
    | true =>
      rw [hi] at h1
      exact RepU.none h1
    | false =>
      rw [hi] at h1
      exact Rep.move (Mv.less fun _ x => x.elim) _ _ h1
theorem RepV.look {K : Frag} {A : AS} {H : Hp} {c f : String} : ∀ {fs : List (String × D)} {vs : List (Str × V)} {d : D}, RepV K A H c fs vs → fs.lookup f = some d → ∃ v, vs.lookup (Str.ofString f) = some v ∧ (match inn c f with | true => RepU K A H d v | false => Rep K A H d v)
  | [], vs, d, h, z => by cases z
  | (n, d0) :: fs, vs, d, h, z => by
    obtain ⟨v, r, rfl, h1, h2⟩ := h
    by_cases e : f = n
    · subst e
      simp only [List.lookup_cons, beq_self_eq_true, Option.some.injEq] at z ⊢
      subst z
      exact ⟨v, rfl, h1⟩
    · have e2 : (Str.ofString f == Str.ofString n) = false := beq_eq_false_iff_ne.mpr fun q => e (ofS_inj q)
      have e3 : (f == n) = false := beq_eq_false_iff_ne.mpr e
      simp only [List.lookup_cons, e2, e3] at z ⊢
      exact RepV.look h2 z
/-- .. or an object -/
def RepW (K : Frag) (A : AS) (H : Hp) : D → V → Prop
  | .lst xs, v => ∃ a vs, v = .ref a ∧ Rd H a (.lst vs) ∧ RepL K A H xs vs
  | .ins c fs, v => ∃ a dx fvs, v = .ref a ∧ H a = some (.ins (ca K c) dx fvs) ∧ RepV K A H c fs fvs
  | .dic t kvs, v => ∃ a, v = .ref a ∧ DicAt K A H a t kvs
  | d, v => Rep K A H d v
theorem RepW.of {K : Frag} {A : AS} {H : Hp} {d : D} {v : V} (h : Rep K A H d v) : RepW K A H d v := by
  cases d with
  | lst xs =>
    simp only [Rep] at h
    obtain ⟨a, vs, e, _, q, r⟩ := h
    exact ⟨a, vs, e, q, r⟩
  | ins c fs =>
    simp only [Rep] at h
    obtain ⟨a, dx, fvs, e, _, q, r⟩ := h
    exact ⟨a, dx, fvs, e, q, RepV.of r⟩
  | dic t kvs =>
    obtain ⟨a, e, _, q⟩ := rep_dic.mp h
    exact ⟨a, e, q⟩
  | _ => exact h
theorem RepW.ofU {K : Frag} {A : AS} {H : Hp} {d : D} {v : V} (h : RepU K A H d v) : RepW K A H d v := by
  cases d with
  | lst xs => exact h
  | dic t kvs => exact h
  | ins c fs => exact RepW.of h
  | _ => exact h
theorem RepW.none {K : Frag} {A : AS} {H : Hp} {d : D} {v : V} (h : RepW K A H d v) : Rep K (fun _ => False) H d v := by
  have z : Mv A H (fun _ => False) H := Mv.less fun _ x => x.elim
  cases d with
  | lst xs =>
    obtain ⟨a, vs, e, q, r⟩ := h
    simp only [Rep]
    exact ⟨a, vs, e, fun x => x, q, RepL.move z _ _ r⟩
  | ins c fs =>
    obtain ⟨a, dx, fvs, e, q, r⟩ := h
    simp only [Rep]
    exact ⟨a, dx, fvs, e, fun x => x, q, r.none⟩
  | dic t kvs =>
    obtain ⟨a, e, q⟩ := h
    exact rep_dic.mpr ⟨a, e, fun x => x, q.move z rfl⟩
  | _ => exact Rep.move z _ _ h
/-- a relation between data and values, under what is to be avoided -/
abbrev RR := AS → Hp → D → V → Prop
/-- an expression that computes m -/
def tG (R : RR) (K : Frag) (W : WX) (ow : Ow) (m : EM) : TE := fun σ H Q => ∃ A H0 O e, ER K A H0 ow O σ H e ∧
  Out (m e) (fun d => ∀ v H', Same H H' → R (AO A O) H' d v → Q v H') (badE K W A O σ H)
/-- .. clean -/
abbrev tE (K : Frag) (W : WX) (ow : Ow) (m : EM) : TE := tG (Rep K) K W ow m
/-- .. to be read only -/
abbrev tW (K : Frag) (W : WX) (ow : Ow) (m : EM) : TE := tG (RepW K) K W ow m
/-- .. a new list -/
def tF (K : Frag) (W : WX) (ow : Ow) (m : EM) : TE := fun σ H Q => ∃ A H0 O e, ER K A H0 ow O σ H e ∧
  Out (m e) (fun d => ∀ a H', H a = none → Same H H' → OwnAt K (fun b => AO A O b ∨ b = a) H' a d → Q (.ref a) H') (badE K W A O σ H)
def tT (K : Frag) (W : WX) (ow : Ow) (m : TM) : TT := fun σ H Q => ∃ A H0 O e, ER K A H0 ow O σ H e ∧
  Out (m e) (fun b => ∀ H', Same H H' → Q b H') (badE K W A O σ H)
def tA (R : RR) (K : Frag) (W : WX) (ow : Ow) (m : AM) : TA := fun σ H Q => ∃ A H0 O e, ER K A H0 ow O σ H e ∧
  Out (m e) (fun ds => ∀ vs H', Same H H' → Paired (fun v d => R (AO A O) H' d v) vs ds → Q vs H') (badE K W A O σ H)
section
variable {X : Cx} {K : Frag} {W : WX} {A : AS} {H0 : Base} {ow : Ow}
theorem PE.of {e : Expr} {t t' : TE} (h : PE X e t) (k : ∀ σ H Q, t' σ H Q → t σ H Q) : PE X e t' := ⟨fun pins s σ H Q I q => h.run pins s σ H Q I (k σ H Q q)⟩
theorem PT.of {e : Expr} {t t' : TT} (h : PT X e t) (k : ∀ σ H Q, t' σ H Q → t σ H Q) : PT X e t' := ⟨fun pins s σ H Q I q => h.run pins s σ H Q I (k σ H Q q)⟩
theorem PW.of {e : Expr} {t t' : TT} (h : PW X e t) (k : ∀ σ H Q, t' σ H Q → t σ H Q) : PW X e t' := ⟨fun wh pins s σ H Q I q => h.run wh pins s σ H Q I (k σ H Q q)⟩
theorem PA.of {e : List Expr} {t t' : TA} (h : PA X e t) (k : ∀ σ H Q, t' σ H Q → t σ H Q) : PA X e t' := ⟨fun pos pins s σ H Q I q => h.run pos pins s σ H Q I (k σ H Q q)⟩
theorem PS.of {e : Stmt} {t t' : TS} (h : PS X e t) (k : ∀ D σ H, t' D σ H → t D σ H) : PS X e t' := ⟨fun pins s σ H D I q => h.run pins s σ H D I (k D σ H q)⟩
theorem PSs.of {e : List Stmt} {t t' : TS} (h : PSs X e t) (k : ∀ D σ H, t' D σ H → t D σ H) : PSs X e t' := ⟨fun pins s σ H D I q => h.run pins s σ H D I (k D σ H q)⟩
theorem w_of {e : Expr} {m : EM} (h : PE X e (tE K W ow m)) : PE X e (tW K W ow m) := PE.of h fun σ H Q ⟨A, H0, O, en, R, q⟩ => ⟨A, H0, O, en, R, q.good fun d k v H' s r => k v H' s (RepW.of r)⟩
theorem e_of {e : Expr} {m : EM} (h : PE X e (tF K W ow m)) : PE X e (tE K W ow m) := PE.of h fun σ H Q ⟨A, H0, O, en, R, q⟩ => ⟨A, H0, O, en, R, q.good fun d k a H' n s r => by
  refine k (.ref a) H' s ?_
  have na : ¬ AO A O a := fun z => R.there a z n
  have mv : Mv (fun b => AO A O b ∨ b = a) H' (AO A O) H' := Mv.less fun b x => .inl x
  exact r.rep mv na⟩
/-! names, constants -/
theorem x_var {i : Nat} {e : Expr} (h : PE X e (tVar i)) (hi : ow i = false) : PE X e (tE K W ow (var i)) := PE.of h fun σ H Q ⟨A, H0, O, en, R, q⟩ => by
  unfold var at q
  split at q
  · rename_i d hd
    obtain ⟨v, e1, r⟩ := R.vals i d hd hi
    exact ⟨v, e1, q v H (Same.refl H) r⟩
  · exact q.elim
/-- a name's own list, read -/
theorem x_own {i : Nat} {e : Expr} (h : PE X e (tVar i)) : PE X e (tW K W ow (var i)) := PE.of h fun σ H Q ⟨A, H0, O, en, R, q⟩ => by
  unfold var at q
  split at q
  · rename_i d hd
    cases hi : ow i with
    | false =>
      obtain ⟨v, e1, r⟩ := R.vals i d hd hi
      exact ⟨v, e1, q v H (Same.refl H) (RepW.of r)⟩
    | true =>
      obtain ⟨a, _, e1, r⟩ := R.owns i d hd hi
      refine ⟨.ref a, e1, q _ H (Same.refl H) ?_⟩
      cases d with
      | lst ds =>
        obtain ⟨vs, e2, r⟩ := r
        exact ⟨a, vs, rfl, .inl e2, r⟩
      | ins c fs =>
        obtain ⟨dx, fvs, e2, r⟩ := r
        exact ⟨a, dx, fvs, rfl, e2, RepV.own r⟩
      | dic t kvs => exact ⟨a, rfl, r⟩
      | _ => exact r.elim
  · exact q.elim
/-- data that need no object -/
def flat : D → Option V
  | .non => some .non
  | .bl b => some (.bl b)
  | .int i => some (.int i)
  | .str s => some (.str (Str.ofString s))
  | _ => none
theorem flat_rep {d : D} {v : V} (h : flat d = some v) (A : AS) (H : Hp) : Rep K A H d v := by
  cases d <;> simp only [flat, Option.some.injEq] at h <;> first | exact h.symm | cases h
theorem x_cst {e : Expr} {d : D} {v : V} (h : PE X e (tC v)) (hf : flat d = some v) : PE X e (tE K W ow (cst d)) := PE.of h fun σ H Q ⟨A, H0, O, en, R, q⟩ => q v H (Same.refl H) (flat_rep hf _ _)
theorem x_int {i j pos} : PE X (.Constant (.int i) j pos) (tE K W ow (cst (.int i))) := x_cst pe_int rfl
theorem x_bl {i j pos} : PE X (.Constant (.bool i) j pos) (tE K W ow (cst (.bl i))) := x_cst pe_bl rfl
theorem x_non {j pos} : PE X (.Constant .none j pos) (tE K W ow (cst .non)) := x_cst pe_non rfl
theorem x_str {s : String} {j pos} : PE X (.Constant (.str (Str.ofString s)) j pos) (tE K W ow (cst (.str s))) := x_cst pe_str rfl
end
end Py
/-! Dicts: their keys in the heap, look-ups, stores. -/
namespace Py
variable [WI]
open PySem L2
/-! ### keys -/
mutual
theorem hk_nk : ∀ (n : Nat) (d : D), hk n d = true → ∃ k, nk d = some k ∧ k.depth ≤ n
  | n, .non, _ => ⟨.none, by simp [nk], by simp [NestedKey.depth]⟩
  | n, .bl b, _ => ⟨.num (b2i b), by simp [nk], by simp [NestedKey.depth]⟩
  | n, .int i, _ => ⟨.num i, by simp [nk], by simp [NestedKey.depth]⟩
  | n + 1, .tup xs, h => by
    simp only [hk] at h
    obtain ⟨ks, h1, h2⟩ := hk_nkL n xs h
    exact ⟨.tup ks, by simp [nk, h1], by simp only [NestedKey.depth]; omega⟩
  | 0, .tup xs, h => by simp [hk] at h
  | n, .str s, _ => ⟨.text (Str.ofString s), by simp [nk], by simp [NestedKey.depth]⟩
  | n, .lst _, h => by cases n <;> simp [hk] at h
  | n, .dic _ _, h => by cases n <;> simp [hk] at h
  | n, .ins _ _, h => by cases n <;> simp [hk] at h
  | n, .drw _, h => by cases n <;> simp [hk] at h
theorem hk_nkL : ∀ (n : Nat) (ds : List D), ds.all (hk n) = true → ∃ ks, nkL ds = some ks ∧ NestedKey.depthAll ks ≤ n
  | n, [], _ => ⟨[], by simp [nkL], by simp [NestedKey.depthAll]⟩
  | n, d :: ds, h => by
    simp only [List.all_cons, Bool.and_eq_true] at h
    obtain ⟨k, h1, h2⟩ := hk_nk n d h.1
    obtain ⟨ks, h3, h4⟩ := hk_nkL n ds h.2
    exact ⟨k :: ks, by simp [nkL, h1, h3], by simp only [NestedKey.depthAll]; omega⟩
end
theorem nkL_cons {d : D} {ds : List D} {ks : List NestedKey} (h : nkL (d :: ds) = some ks) : ∃ k r, nk d = some k ∧ nkL ds = some r ∧ ks = k :: r := by
  simp only [nkL] at h
  split at h
  · rename_i k r e1 e2
    exact ⟨k, r, e1, e2, (Option.some.inj h).symm⟩
  · cases h
mutual
theorem nk_eqv : ∀ (d e : D) (k j : NestedKey), nk d = some k → nk e = some j → eqv d e = NestedKey.beq k j
  | .non, e, k, j, h, h' => by
    simp only [nk, Option.some.injEq] at h
    subst h
    cases e <;> simp only [nk, Option.some.injEq, reduceCtorEq, Option.map_eq_some_iff] at h' <;> first | (subst h'; simp [eqv, NestedKey.beq]) | (obtain ⟨_, _, rfl⟩ := h'; simp [eqv, NestedKey.beq])
  | .bl b, e, k, j, h, h' => by
    simp only [nk, Option.some.injEq] at h
    subst h
    cases e <;> simp only [nk, Option.some.injEq, reduceCtorEq, Option.map_eq_some_iff] at h' <;> first | (subst h'; simp [eqv, NestedKey.beq]; try rfl) | (obtain ⟨_, _, rfl⟩ := h'; simp [eqv, NestedKey.beq])
    rename_i c
    cases b <;> cases c <;> simp [b2i]
  | .int i, e, k, j, h, h' => by
    simp only [nk, Option.some.injEq] at h
    subst h
    cases e <;> simp only [nk, Option.some.injEq, reduceCtorEq, Option.map_eq_some_iff] at h' <;> first | (subst h'; simp [eqv, NestedKey.beq]; try rfl) | (obtain ⟨_, _, rfl⟩ := h'; simp [eqv, NestedKey.beq])
  | .tup xs, e, k, j, h, h' => by
    simp only [nk, Option.map_eq_some_iff] at h
    obtain ⟨ks, h1, rfl⟩ := h
    cases e <;> simp only [nk, Option.some.injEq, reduceCtorEq, Option.map_eq_some_iff] at h' <;> first | (subst h'; simp [eqv, NestedKey.beq]; done) | skip
    rename_i ys
    obtain ⟨js, h2, rfl⟩ := h'
    simp only [eqv, NestedKey.beq]
    exact nk_eqvL xs ys ks js h1 h2
  | .str a, e, k, j, h, h' => by
    simp only [nk, Option.some.injEq] at h
    subst h
    cases e <;> simp only [nk, Option.some.injEq, reduceCtorEq, Option.map_eq_some_iff] at h' <;> first | (subst h'; simp [eqv, NestedKey.beq]; done) | (obtain ⟨_, _, rfl⟩ := h'; simp [eqv, NestedKey.beq]; done) | skip
    rename_i b
    subst h'
    simp only [eqv, NestedKey.beq]
    by_cases q : a = b
    · subst q
      simp
    · rw [beq_eq_false_iff_ne.mpr q]
      exact (decide_eq_false fun z => q (ofS_inj z)).symm
  | .lst _, e, k, j, h, _ => by simp [nk] at h
  | .dic _ _, e, k, j, h, _ => by simp [nk] at h
  | .ins _ _, e, k, j, h, _ => by simp [nk] at h
  | .drw _, e, k, j, h, _ => by simp [nk] at h
theorem nk_eqvL : ∀ (ds es : List D) (ks js : List NestedKey), nkL ds = some ks → nkL es = some js → eqv.eqvL ds es = NestedKey.beqAll ks js
  | [], [], ks, js, h, h' => by
    simp only [nkL, Option.some.injEq] at h h'
    subst h h'
    simp [eqv.eqvL, NestedKey.beqAll]
  | [], e :: es, ks, js, h, h' => by
    obtain ⟨k, r, h1, h2, rfl⟩ := nkL_cons h'
    simp only [nkL, Option.some.injEq] at h
    subst h
    simp [eqv.eqvL, NestedKey.beqAll]
  | d :: ds, [], ks, js, h, h' => by
    obtain ⟨k, r, h1, h2, rfl⟩ := nkL_cons h
    simp only [nkL, Option.some.injEq] at h'
    subst h'
    simp [eqv.eqvL, NestedKey.beqAll]
  | d :: ds, e :: es, ks, js, h, h' => by
    obtain ⟨k, r, h1, h2, rfl⟩ := nkL_cons h
    obtain ⟨k', r', h1', h2', rfl⟩ := nkL_cons h'
    simp only [eqv.eqvL, NestedKey.beqAll]
    rw [nk_eqv d e k k' h1 h1', nk_eqvL ds es r r' h2 h2']
end
theorem nk_eq {d e : D} {k j : NestedKey} (h : nk d = some k) (h' : nk e = some j) : eqv d e = decide (k = j) := by
  rw [NestedKey.decide_eq]
  exact nk_eqv d e k j h h'
theorem keyT {k : D} (h : keyOk true k = true) : ∃ c, nk k = some c ∧ c.depth ≤ 8 := by
  cases k <;> simp only [keyOk, reduceCtorEq] at h <;> first | cases h | exact hk_nk 8 _ h
theorem keyK {k : D} (h : keyOk false k = true) : ∃ c, kvK k = some c := by
  cases k <;> first | exact ⟨_, rfl⟩ | simp [keyOk] at h
theorem kv_eq {d e : D} {k j : Key} (h : kvK d = some k) (h' : kvK e = some j) : eqv d e = decide (k = j) := by
  cases d <;> simp only [kvK, Option.some.injEq, reduceCtorEq] at h <;> subst h <;> cases e <;> simp only [kvK, Option.some.injEq, reduceCtorEq] at h' <;> subst h' <;> simp [eqv]
  · rename_i a b
    by_cases q : a = b <;> simp [q]
  · rename_i a b
    by_cases q : a = b
    · simp [q]
    · have q2 : ¬ Str.ofString a = Str.ofString b := fun z => q (ofS_inj z)
      simp [q, q2]
theorem kv_rep {K : Frag} {A : AS} {H : Hp} {d : D} {k : Key} {v : V} (h : kvK d = some k) (r : Rep K A H d v) : v = kV k := by
  cases d <;> simp only [kvK, Option.some.injEq, reduceCtorEq] at h <;> subst h <;> simp only [Rep] at r <;> exact r
/-! ### in the heap -/
section
variable {X : Cx} [CW X] {pins : List (Addr × Obj)} {σ : L2.St} {H : Hp} {s : Shared} {A : AS} {a : Addr}
mutual
theorem nest_of (I : Inv X pins σ H s) : ∀ (d : D) (v : V) (u : Value) (k : NestedKey), nk d = some k → Rep X.K A H d v → RelV v u → NestedIs s.heap k u
  | .non, v, u, k, h, r, e => by
    simp only [nk, Option.some.injEq] at h
    simp only [Rep] at r
    subst h r
    cases (show u = Value.none from e)
    exact .none
  | .bl b, v, u, k, h, r, e => by
    simp only [nk, Option.some.injEq] at h
    simp only [Rep] at r
    subst h r
    cases (show u = Value.bool b from e)
    exact .bool (by cases b <;> rfl)
  | .int i, v, u, k, h, r, e => by
    simp only [nk, Option.some.injEq] at h
    simp only [Rep] at r
    subst h r
    obtain ⟨t, rfl⟩ := (show ∃ t, u = Value.int i t from e)
    exact .int _ _
  | .tup xs, v, u, k, h, r, e => by
    simp only [nk, Option.map_eq_some_iff] at h
    obtain ⟨ks, h1, rfl⟩ := h
    simp only [Rep] at r
    obtain ⟨b, vs, rfl, q, r⟩ := r
    cases (show u = Value.ref b from e)
    obtain ⟨its, rv, ⟨o, g1, g2, n, g3⟩, _⟩ := I.tuple q
    exact .tup g1 g2 g3 (by simpa using nest_ofL I xs vs its ks h1 r rv)
  | .str a, v, u, k, h, r, e => by
    simp only [nk, Option.some.injEq] at h
    simp only [Rep] at r
    subst h r
    obtain ⟨t, rfl⟩ := (show ∃ t, u = Value.str (Str.ofString a) t from e)
    exact .text _ _
  | .lst _, v, u, k, h, _, _ => by simp [nk] at h
  | .dic _ _, v, u, k, h, _, _ => by simp [nk] at h
  | .ins _ _, v, u, k, h, _, _ => by simp [nk] at h
  | .drw _, v, u, k, h, _, _ => by simp [nk] at h
theorem nest_ofL (I : Inv X pins σ H s) : ∀ (ds : List D) (vs : List V) (us : List Value) (ks : List NestedKey), nkL ds = some ks → RepL X.K A H ds vs → Vals vs us → NestedAll s.heap ks us
  | [], vs, us, ks, h, r, e => by
    simp only [nkL, Option.some.injEq] at h
    simp only [RepL] at r
    subst h r
    cases e
    exact .nil
  | d :: ds, vs, us, ks, h, r, e => by
    obtain ⟨k, r', h1, h2, rfl⟩ := nkL_cons h
    simp only [RepL] at r
    obtain ⟨v, rs, rfl, q1, q2⟩ := r
    cases e with
    | cons e1 e2 => exact .cons (nest_of I d v _ k h1 q1 e1) (nest_ofL I ds rs _ r' h2 q2 e2)
end
theorem is_of (I : Inv X pins σ H s) {k : D} {c : NestedKey} {b : Addr} (h : keyOk true k = true) (hc : nk k = some c) (r : Rep X.K A H k (.ref b)) : (nestedKind X.prog X.w).is s.heap c b := by
  obtain ⟨c', h1, h2⟩ := keyT h
  rw [hc] at h1
  cases h1
  exact ⟨nest_of I k _ _ c hc r rfl, h2⟩
/-! ### look-ups -/
abbrev PT3 : List (NestedKey × Addr × V) → List (NestedKey × Addr × Value) → Prop := Paired fun p q => p.1 = q.1 ∧ p.2.1 = q.2.1 ∧ RelV p.2.2 q.2.2
theorem find_T {K : Frag} {k : D} {c : NestedKey} (hc : nk k = some c) : ∀ {kvs : List (D × D)} {es : List (NestedKey × Addr × V)} {xs : List (NestedKey × Addr × Value)}, RepT K A H kvs es → PT3 es xs →
    match find k kvs with | some d => ∃ b u v, atKey xs c = some (b, u) ∧ RelV v u ∧ Rep K A H d v | none => atKey xs c = none
  | [], es, xs, r, p => by
    simp only [RepT] at r
    subst r
    cases p
    rfl
  | (k0, d0) :: kvs, es, xs, r, p => by
    simp only [RepT] at r
    obtain ⟨c0, b, v, q, rfl, ⟨h0, _⟩, h1, h2, h3⟩ := r
    cases p with
    | @cons _ y _ ys hp t =>
      obtain ⟨p1, p2, p3⟩ := hp
      simp only [find, nk_eq h0 hc]
      have p1' : c0 = y.1 := p1
      by_cases e : c0 = c
      · rw [decide_eq_true e]
        refine ⟨y.2.1, y.2.2, v, ?_, p3, h2⟩
        unfold atKey
        rw [List.find?_cons_of_pos (by simpa using p1'.symm.trans e)]
        rfl
      · rw [decide_eq_false e]
        have e2 : atKey (y :: ys) c = atKey ys c := by
          unfold atKey
          rw [List.find?_cons_of_neg (by simpa using fun z => e (p1'.trans z))]
        rw [e2]
        exact find_T hc h3 t
theorem find_K {K : Frag} {k : D} {c : Key} (hc : kvK k = some c) : ∀ {kvs : List (D × D)} {ks : List (Key × V)}, RepK K A H kvs ks →
    match find k kvs with | some d => ∃ v, valV ks c = some v ∧ Rep K A H d v | none => valV ks c = none
  | [], ks, r => by
    simp only [RepK] at r
    subst r
    rfl
  | (k0, d0) :: kvs, ks, r => by
    simp only [RepK] at r
    obtain ⟨c0, v, q, rfl, h0, h2, h3⟩ := r
    simp only [find, kv_eq h0 hc]
    by_cases e : c0 = c
    · rw [decide_eq_true e, valV_pos (p := (c0, v)) e]
      exact ⟨v, rfl, h2⟩
    · rw [decide_eq_false e, valV_neg (p := (c0, v)) e]
      exact find_K hc h3
theorem dic_rd (I : Inv X pins σ H s) {es : E3} {kvs : List (D × D)} (e : H a = some (dicT a es)) (r : RepT X.K A H kvs es.1) : es.1.length ≤ sizeLine ∧ (a == sysModules) = false ∧ ∃ xs, PT3 es.1 xs ∧ s.heap.DictOfH (nestedKind X.prog X.w) a xs ∧
    ∃ o en ep, s.heap.get? a = some o ∧ o.ExactDict ∧ o.data = .dict en ep ∧ en.toList = xs.map (entW X.w) ∧ (xs.map (·.1)).Nodup := by
  obtain ⟨⟨h1, h2, xs, h3, o, g1, g2, g3, g4, g5⟩, _, _⟩ := (show ObjOk X.prog X.w H s.heap a (dicT a es) from I.hok a _ e)
  rw [← CW.eq (X := X)] at g4
  refine ⟨h2, h1, xs, h3, ⟨o, _, _, g1, g2, g3, g4, ?_, g5⟩, o, _, _, g1, g2, g3, g4, g5⟩
  have all : ∀ {kvs : List (D × D)} {es : List (NestedKey × Addr × V)} {xs : List (NestedKey × Addr × Value)}, RepT X.K A H kvs es → PT3 es xs → ∀ x ∈ xs, (nestedKind X.prog X.w).is s.heap x.1 x.2.1 := by
    intro kvs
    induction kvs with
    | nil =>
      intro es xs r p
      simp only [RepT] at r
      subst r
      cases p
      intro x hx
      cases hx
    | cons kd kvs ih =>
      intro es xs r p
      obtain ⟨k0, d0⟩ := kd
      simp only [RepT] at r
      obtain ⟨c0, b, v, q, rfl, ⟨h0, hk0⟩, h1, h2, h3⟩ := r
      cases p with
      | cons hp t =>
        obtain ⟨p1, p2, p3⟩ := hp
        intro x hx
        rcases List.mem_cons.mp hx with z | hx
        · subst z
          have := is_of I hk0 h0 h1
          have p1' : c0 = x.1 := p1
          have p2' : b = x.2.1 := p2
          rw [p1', p2'] at this
          exact this
        · exact ih h3 t x hx
  exact all r h3
theorem dic_type (I : Inv X pins σ H s) {t : Bool} {kvs : List (D × D)} (g : DicAt X.K A H a t kvs) : s.TypeIs (.ref a) "dict" := by
  rcases g with ⟨rfl, ks, e, r⟩ | ⟨rfl, es, e, r⟩
  · obtain ⟨_, _, vs, _, dd⟩ := dk_of I.hok e
    exact dd.typeIs
  · obtain ⟨z, hsm, xs, rel, dd, _⟩ := dic_rd I e r
    exact dd.typeIs
/-- len(d) -/
theorem dic_len {B : Around} {E : Value → Shared → Prop} {t : Bool} {kvs : List (D × D)} {Q : Value → Shared → Prop} (I : Inv X pins σ H s) (g : DicAt X.K A H a t kvs) (hl : ∀ {kvs : List (D × D)} {es : List (NestedKey × Addr × V)}, RepT X.K A H kvs es → es.length = kvs.length) (hl2 : ∀ {kvs : List (D × D)} {es : List (Key × V)}, RepK X.K A H kvs es → es.length = kvs.length)
    (h : ∀ t' s', Inv X pins σ H s' → Q (.int kvs.length t') s') : wpAny (model X.prog X.w) B (PySem.call (.builtin "len") [.ref a]) Q E s := by
  rcases g with ⟨rfl, ks, e, r⟩ | ⟨rfl, es, e, r⟩
  · refine d_len I (.inl e) fun t' s' I' => ?_
    rw [hl2 r]
    exact h t' s' I'
  · obtain ⟨z, hsm, xs, rel, dd, _⟩ := dic_rd I e r
    have hm : s.heap.DictKeyed (nestedKind X.prog X.w) a (pairsH xs) := ⟨xs, dd, rfl⟩
    have h1 : (pairsH xs).length = kvs.length := by rw [pairsH_length, ← Paired.length rel, hl r]
    refine PyProof.Rows.call_len_slot (n := (pairsH xs).length) hm.typeIs F.slot_dict_len (fun Q' hq => len_keyed hsm hm hq) (by omega) ?_ ?_
    · have hz := sizeLine_eq
      have := Paired.length rel
      rw [pairsH_length]
      omega
    · rw [h1]
      exact h _ _ ((I.tok _).tok _)
/-- d[k], there -/
theorem dic_get {B : Around} {E : Value → Shared → Prop} {t : Bool} {kvs : List (D × D)} {k d : D} {y : V} {u : Value} {Q : Value → Shared → Prop} (hu : B.units + 16 < cLine) (I : Inv X pins σ H s) (g : DicAt X.K A H a t kvs) (hk : keyOk t k = true) (rk : Rep X.K A H k y) (ry : RelV y u)
    (hf : find k kvs = some d) (h : ∀ v w' s', Inv X pins σ H s' → RelV v w' → Rep X.K A H d v → Q w' s') : wpAny (model X.prog X.w) B (getItem (.ref a) u) Q E s := by
  rcases g with ⟨rfl, ks, e, r⟩ | ⟨rfl, es, e, r⟩
  · obtain ⟨c, hc⟩ := keyK hk
    have q := find_K hc r
    rw [hf] at q
    obtain ⟨v, hv, rv⟩ := q
    have hy := kv_rep hc rk
    subst hy
    refine d_getItem (by omega) I (hv ▸ DGet.k e) ry fun w' s' I' r' => h v w' s' I' r' rv
  · obtain ⟨c, hc, hd⟩ := keyT hk
    obtain ⟨z, hsm, xs, rel, dd, _⟩ := dic_rd I e r
    have q := find_T hc r rel
    rw [hf] at q
    obtain ⟨b, u', v, hat, rv, rd⟩ := q
    have hk' := hk
    cases k with
    | tup xs' =>
      simp only [Rep] at rk
      obtain ⟨b', vs, rfl, q1, q2⟩ := rk
      cases (show u = Value.ref b' from ry)
      refine wpAny_getItem_heap (by show B.units + 1 + 8 < cLine; omega) (is_of (A := A) I hk' hc (by simp only [Rep]; exact ⟨b', vs, rfl, q1, q2⟩)) dd hat ?_
      exact h v u' _ (I.tok _) rv rd
    | _ => simp [keyOk] at hk
theorem dic_in {B : Around} {E : Value → Shared → Prop} {t : Bool} {kvs : List (D × D)} {k : D} {y : V} {u : Value} {Q : Value → Shared → Prop} (hu : B.units + 16 < cLine) (I : Inv X pins σ H s) (g : DicAt X.K A H a t kvs) (hk : keyOk t k = true) (rk : Rep X.K A H k y) (ry : RelV y u)
    (h : ∀ s', Inv X pins σ H s' → Q (.bool (find k kvs).isSome) s') : wpAny (model X.prog X.w) B (compareOp .In u (.ref a)) Q E s := by
  rcases g with ⟨rfl, ks, e, r⟩ | ⟨rfl, es, e, r⟩
  · obtain ⟨c, hc⟩ := keyK hk
    have q := find_K hc r
    have hy := kv_rep hc rk
    subst hy
    refine d_in (by omega) I (DGet.k e) ry fun s' I' => ?_
    have z : (valV ks c).isSome = (find k kvs).isSome := by
      cases hf : find k kvs with
      | none => rw [hf] at q; rw [show valV ks c = none from q]; rfl
      | some d => rw [hf] at q; obtain ⟨v, hv, _⟩ := q; rw [hv]; rfl
    rw [z]
    exact h s' I'
  · obtain ⟨c, hc, hd⟩ := keyT hk
    obtain ⟨z, hsm, xs, rel, dd, _⟩ := dic_rd I e r
    have q := find_T hc r rel
    have hk' := hk
    cases k with
    | tup xs' =>
      simp only [Rep] at rk
      obtain ⟨b', vs, rfl, q1, q2⟩ := rk
      cases (show u = Value.ref b' from ry)
      refine wpAny_in_heap (by show B.units + 1 + 8 < cLine; omega) (is_of (A := A) I hk' hc (by simp only [Rep]; exact ⟨b', vs, rfl, q1, q2⟩)) hsm dd ?_
      have z : (atKey xs c).isSome = (find (.tup xs') kvs).isSome := by
        cases hf : find (.tup xs') kvs with
        | none => rw [hf] at q; rw [show atKey xs c = none from q]; rfl
        | some d => rw [hf] at q; obtain ⟨b, u', v, hv, _⟩ := q; rw [hv]; rfl
      rw [z]
      exact h _ (I.tok _)
    | _ => simp [keyOk] at hk
theorem dic_notIn {B : Around} {E : Value → Shared → Prop} {t : Bool} {kvs : List (D × D)} {k : D} {y : V} {u : Value} {Q : Value → Shared → Prop} (hu : B.units + 16 < cLine) (I : Inv X pins σ H s) (g : DicAt X.K A H a t kvs) (hk : keyOk t k = true) (rk : Rep X.K A H k y) (ry : RelV y u)
    (h : ∀ s', Inv X pins σ H s' → Q (.bool (!(find k kvs).isSome)) s') : wpAny (model X.prog X.w) B (compareOp .NotIn u (.ref a)) Q E s := by
  rcases g with ⟨rfl, ks, e, r⟩ | ⟨rfl, es, e, r⟩
  · obtain ⟨c, hc⟩ := keyK hk
    have q := find_K hc r
    have hy := kv_rep hc rk
    subst hy
    refine d_notIn (by omega) I (DGet.k e) ry fun s' I' => ?_
    have z : (valV ks c).isSome = (find k kvs).isSome := by
      cases hf : find k kvs with
      | none => rw [hf] at q; rw [show valV ks c = none from q]; rfl
      | some d => rw [hf] at q; obtain ⟨v, hv, _⟩ := q; rw [hv]; rfl
    rw [z]
    exact h s' I'
  · obtain ⟨c, hc, hd⟩ := keyT hk
    obtain ⟨z, hsm, xs, rel, dd, _⟩ := dic_rd I e r
    have q := find_T hc r rel
    have hk' := hk
    cases k with
    | tup xs' =>
      simp only [Rep] at rk
      obtain ⟨b', vs, rfl, q1, q2⟩ := rk
      cases (show u = Value.ref b' from ry)
      refine PyProof.Rows.wpAny_notIn_heap (by show B.units + 1 + 8 < cLine; omega) (is_of (A := A) I hk' hc (by simp only [Rep]; exact ⟨b', vs, rfl, q1, q2⟩)) hsm dd ?_
      have z : (atKey xs c).isSome = (find (.tup xs') kvs).isSome := by
        cases hf : find (.tup xs') kvs with
        | none => rw [hf] at q; rw [show atKey xs c = none from q]; rfl
        | some d => rw [hf] at q; obtain ⟨b, u', v, hv, _⟩ := q; rw [hv]; rfl
      rw [z]
      exact h _ (I.tok _)
    | _ => simp [keyOk] at hk
/-! ### stores -/
def putE (es : List (NestedKey × Addr × V)) (c : NestedKey) (b : Addr) (v : V) : List (NestedKey × Addr × V) :=
  if es.any (fun x => decide (x.1 = c)) then es.map (fun x => if x.1 = c then (x.1, x.2.1, v) else x) else es ++ [(c, b, v)]
theorem map_no {α β : Type} [DecidableEq α] (c : α) (f : α × β → α × β) : ∀ (es : List (α × β)), ¬ c ∈ es.map (·.1) → es.map (fun x => if x.1 = c then f x else x) = es
  | [], _ => rfl
  | x :: es, h => by
    simp only [List.map_cons, List.mem_cons, not_or] at h
    simp only [List.map_cons]
    rw [if_neg fun z => h.1 z.symm, map_no c f es h.2]
theorem put_T {K : Frag} {k d : D} {c : NestedKey} {b : Addr} {v : V} (hc : nk k = some c) (hk : keyOk true k = true) (rk : Rep K A H k (.ref b)) (rd : Rep K A H d v) : ∀ {kvs : List (D × D)} {es : List (NestedKey × Addr × V)}, RepT K A H kvs es → (es.map (·.1)).Nodup →
    RepT K A H (putD k d kvs) (putE es c b v)
  | [], es, r, _ => by
    simp only [RepT] at r
    subst r
    show RepT K A H [(k, d)] [(c, b, v)]
    simp only [RepT]
    exact ⟨c, b, v, [], rfl, ⟨hc, hk⟩, rk, rd, rfl⟩
  | (k0, d0) :: kvs, es, r, nd => by
    simp only [RepT] at r
    obtain ⟨c0, b0, v0, q, rfl, ⟨h0, hk0⟩, h1, h2, h3⟩ := r
    simp only [List.map_cons, List.nodup_cons] at nd
    simp only [putD, nk_eq h0 hc]
    by_cases e : c0 = c
    · rw [decide_eq_true e, if_pos rfl]
      have e1 : putE ((c0, b0, v0) :: q) c b v = (c0, b0, v) :: q := by
        unfold putE
        rw [if_pos (by simp [e])]
        simp only [List.map_cons]
        rw [if_pos e, map_no c (fun x => (x.1, x.2.1, v)) q (by rw [← e]; exact nd.1)]
      rw [e1]
      simp only [RepT]
      exact ⟨c0, b0, v, q, rfl, ⟨h0, hk0⟩, h1, rd, h3⟩
    · rw [decide_eq_false e, if_neg (by decide)]
      have e1 : putE ((c0, b0, v0) :: q) c b v = (c0, b0, v0) :: putE q c b v := by
        unfold putE
        simp only [List.any_cons, decide_eq_false e, Bool.false_or]
        split
        · simp only [List.map_cons]
          rw [if_neg e]
        · rfl
      rw [e1]
      simp only [RepT]
      exact ⟨c0, b0, v0, _, rfl, ⟨h0, hk0⟩, h1, h2, put_T hc hk rk rd h3 nd.2⟩
theorem put_K {K : Frag} {k d : D} {c : Key} {v : V} (hc : kvK k = some c) (rd : Rep K A H d v) : ∀ {kvs : List (D × D)} {ks : List (Key × V)}, RepK K A H kvs ks → (ks.map (·.1)).Nodup → RepK K A H (putD k d kvs) (putK ks c v)
  | [], ks, r, _ => by
    simp only [RepK] at r
    subst r
    show RepK K A H [(k, d)] [(c, v)]
    simp only [RepK]
    exact ⟨c, v, [], rfl, hc, rd, rfl⟩
  | (k0, d0) :: kvs, ks, r, nd => by
    simp only [RepK] at r
    obtain ⟨c0, v0, q, rfl, h0, h2, h3⟩ := r
    simp only [List.map_cons, List.nodup_cons] at nd
    simp only [putD, kv_eq h0 hc]
    by_cases e : c0 = c
    · rw [decide_eq_true e, if_pos rfl]
      have e1 : putK ((c0, v0) :: q) c v = (c0, v) :: q := by
        unfold putK
        rw [if_pos (by simp [e])]
        simp only [List.map_cons]
        rw [if_pos e, map_no c (fun x => (x.1, v)) q (by rw [← e]; exact nd.1)]
      rw [e1]
      simp only [RepK]
      exact ⟨c0, v, q, rfl, h0, rd, h3⟩
    · rw [decide_eq_false e, if_neg (by decide)]
      have e1 : putK ((c0, v0) :: q) c v = (c0, v0) :: putK q c v := by
        unfold putK
        simp only [List.any_cons, decide_eq_false e, Bool.false_or]
        split
        · simp only [List.map_cons]
          rw [if_neg e]
        · rfl
      rw [e1]
      simp only [RepK]
      exact ⟨c0, v0, _, rfl, h0, h2, put_K hc rd h3 nd.2⟩
theorem pt_keys : ∀ {es : List (NestedKey × Addr × V)} {xs : List (NestedKey × Addr × Value)}, PT3 es xs → es.map (·.1) = xs.map (·.1)
  | _, _, .nil => rfl
  | _, _, .cons h t => by
    simp only [List.map_cons]
    rw [h.1, pt_keys t]
theorem pt_any {es : List (NestedKey × Addr × V)} {xs : List (NestedKey × Addr × Value)} (p : PT3 es xs) (c : NestedKey) : (es.any fun x => decide (x.1 = c)) = (atKey xs c).isSome := by
  induction p with
  | nil => rfl
  | @cons x y es xs h t ih =>
    simp only [List.any_cons]
    have h1 : x.1 = y.1 := h.1
    by_cases e : y.1 = c
    · have e2 : atKey (y :: xs) c = some y.2 := by
        unfold atKey
        rw [List.find?_cons_of_pos (by simpa using e)]
        rfl
      rw [e2, h1, decide_eq_true e]
      rfl
    · have e2 : atKey (y :: xs) c = atKey xs c := by
        unfold atKey
        rw [List.find?_cons_of_neg (by simpa using e)]
      rw [e2, h1, decide_eq_false e, Bool.false_or, ih]
theorem pt_put {es : List (NestedKey × Addr × V)} {xs : List (NestedKey × Addr × Value)} (p : PT3 es xs) (c : NestedKey) (b : Addr) {v : V} {u : Value} (r : RelV v u) : PT3 (putE es c b v) (storedH xs c b u) := by
  unfold putE storedH
  rw [pt_any p]
  split
  · rename_i h
    clear h
    induction p with
    | nil => exact .nil
    | @cons x y es xs h t ih =>
      simp only [List.map_cons]
      refine .cons ?_ ih
      unfold putAt
      have h1 : x.1 = y.1 := h.1
      by_cases e : y.1 = c
      · rw [if_pos (h1.trans e), if_pos e]
        exact ⟨h1, h.2.1, r⟩
      · rw [if_neg fun z => e (h1.symm.trans z), if_neg e]
        exact h
  · exact Paired.snoc p ⟨rfl, rfl, r⟩
theorem putE_len (es : List (NestedKey × Addr × V)) (c : NestedKey) (b : Addr) (v : V) : (putE es c b v).length ≤ es.length + 1 := by
  unfold putE
  split <;> simp
theorem RepT.len {K : Frag} : ∀ {kvs : List (D × D)} {es : List (NestedKey × Addr × V)}, RepT K A H kvs es → es.length = kvs.length
  | [], es, r => by
    simp only [RepT] at r
    subst r
    rfl
  | (k, d) :: kvs, es, r => by
    simp only [RepT] at r
    obtain ⟨c0, b0, v0, q, rfl, _, _, _, h3⟩ := r
    simp [RepT.len h3]
theorem RepK.len {K : Frag} : ∀ {kvs : List (D × D)} {es : List (Key × V)}, RepK K A H kvs es → es.length = kvs.length
  | [], es, r => by
    simp only [RepK] at r
    subst r
    rfl
  | (k, d) :: kvs, es, r => by
    simp only [RepK] at r
    obtain ⟨c0, v0, q, rfl, _, _, h3⟩ := r
    simp [RepK.len h3]
/-- d[k] = v -/
def rSetN (K : Frag) : TSet := fun o i v H Q => ∃ A t kvs k d a, o = .ref a ∧ A a ∧ DicAt K A H a t kvs ∧ Rep K A H k i ∧ Rep K A H d v ∧ keyOk t k = true ∧ kvs.length < SZ ∧ ∀ ob, DicAt K A (upd H a ob) a t (putD k d kvs) → Q (upd H a ob)
theorem set_dic (hu : X.A.units + 16 < cLine) : PSet X (rSetN X.K) := by
  intro pins s σ H o i v ov iv u Q I ro ri rv ⟨A, t, kvs, k, d, a, eo, hA, g, rk, rd, hk, hl, q⟩
  subst eo
  cases (show ov = Value.ref a from ro)
  rcases g with ⟨rfl, ks, e, r⟩ | ⟨rfl, es, e, r⟩
  · obtain ⟨c, hc⟩ := keyK hk
    have hy := kv_rep hc rk
    subst hy
    have hlen := r.len
    have nd : (ks.map (·.1)).Nodup := by
      obtain ⟨_, _, vs, rel, _, _, _, _, _, _, _, _, nd⟩ := dk_of I.hok e
      rw [rel.keys]
      exact nd
    refine d_setItem (by omega) I (DPut.k e (by rw [hlen]; exact hl)) ri rv fun s' I' => ⟨_, I', q _ ?_⟩
    have mv : Mv A H A (upd H a (.dK (putK ks c v))) := ⟨fun b hb => .inl hb, fun b ob e3 hb => by
      rw [upd_ne]
      · exact e3
      · intro z
        subst z
        rcases hb with hb | hb
        · exact hb hA
        · rw [e] at e3
          cases e3
          exact hb⟩
    exact .inl ⟨rfl, _, upd_same, RepK.move mv _ _ (put_K hc rd r nd)⟩
  · obtain ⟨c, hc, hd⟩ := keyT hk
    obtain ⟨z, hsm, xs, rel, dd, o0, en, ep, g1, g2, g3, g4, g5⟩ := dic_rd I e r
    have hk' := hk
    have nd : (es.1.map (·.1)).Nodup := by
      rw [pt_keys rel]
      exact g5
    cases k with
    | tup xs' =>
      have rk0 := rk
      simp only [Rep] at rk
      obtain ⟨b', vs, rfl, q1, q2⟩ := rk
      cases (show iv = Value.ref b' from ri)
      have hlen := r.len
      have hsz : SZ = sizeLine := rfl
      have hz : xs.length ≤ sizeLine := by rw [← Paired.length rel]; exact z
      have rp := put_T hc hk rk0 rd r nd
      have pp := pt_put rel c b' rv
      refine wpAny_setItem_heap (hsz := hz) (by show X.A.units + 1 + 8 < cLine; omega) (is_of (A := A) I hk hc rk0) dd fun h' dd' hs => ?_
      obtain ⟨q0, en', ep', hq, h2, h3, h4, _, h5⟩ := dd'
      have mv : Mv A H A (upd H a (dicT a (putE es.1 c b' v, en', ep'))) := ⟨fun b hb => .inl hb, fun b ob e3 hb => by
        rw [upd_ne]
        · exact e3
        · intro z
          subst z
          rcases hb with hb | hb
          · exact hb hA
          · rw [e] at e3
            cases e3
            exact hb⟩
      refine ⟨upd H a (dicT a (putE es.1 c b' v, en', ep')), ?_, q _ (.inr ⟨rfl, _, upd_same, RepT.move mv _ _ rp⟩)⟩
      refine d_write I (by rw [e]; exact True.intro) hs ⟨q0, hq⟩ ⟨⟨hsm, ?_, _, pp, q0, hq, h2, h3, ?_, h5⟩, ⟨q0, hq⟩, ?_⟩
      · have := putE_len es.1 c b' v
        show (putE es.1 c b' v).length ≤ sizeLine
        omega
      · have h4' : en'.toList = (storedH xs c b' u).map (entW X.w) := h4
        rw [h4', CW.eq (X := X)]
      · rintro h1 h2 ⟨y1, y2, xs', y3, o', z1, z2⟩ hk2
        exact ⟨y1, y2, xs', y3, o', hk2 _ z1, z2⟩
    | _ => simp [keyOk] at hk
/-- of a list or a dict -/
def rSetX (K : Frag) : TSet := fun o i v H Q => rSetL o i v H Q ∨ rSetN K o i v H Q
theorem set_any (hu : X.A.units + 16 < cLine) : PSet X (rSetX X.K) := fun pins s σ H o i v ov iv u Q I ro ri rv h => by
  rcases h with h | h
  · exact set_list pins s σ H o i v ov iv u Q I ro ri rv h
  · exact set_dic hu pins s σ H o i v ov iv u Q I ro ri rv h
end
end Py
/-! Operators. -/
namespace Py
variable [WI]
open PySem L2
/-! ### data of the library -/
mutual
def toPy : D → PyData
  | .non => .none
  | .bl b => .bool b
  | .int i => .int i
  | .str s => .str (Str.ofString s)
  | .tup xs => .tuple (toPyL xs)
  | .lst xs => .list (toPyL xs)
  | .dic _ _ => .none
  | .ins _ _ => .none
  | .drw _ => .none
def toPyL : List D → List PyData
  | [] => []
  | d :: r => toPy d :: toPyL r
end
theorem str_len (s : String) : (Str.ofString s).length = s.length := by
  rw [Str.ofString_eq_toList]
  simp [Str.length, String.length_toList]
theorem str_ok (s : String) : PySem.PyData.strOk (Str.ofString s) = true := by
  rw [Str.ofString_eq_toList]
  simp only [PySem.PyData.strOk, List.size_toArray, List.all_toArray', List.all_map]
  refine List.all_eq_true.mpr fun c _ => ?_
  simp only [Function.comp, decide_eq_true_eq]
  rcases c.valid with h | h
  · have h2 : c.toNat < 55296 := h
    omega
  · have h2 : c.toNat < 1114112 := h.2
    omega
mutual
theorem dp_of {K : Frag} {H : Hp} : ∀ (n : Nat) (d : D) (v : V), pl n d = true → Rep K (fun _ => False) H d v → Dp K H v (toPy d) ∧ (toPy d).canLay0 = true ∧ (toPy d).depth ≤ n
  | n, .non, v, _, h => by
    simp only [Rep] at h
    subst h
    exact ⟨.non, by simp [toPy, PyData.canLay0], by simp [toPy, PyData.depth]⟩
  | n, .bl b, v, _, h => by
    simp only [Rep] at h
    subst h
    exact ⟨.bl b, by simp [toPy, PyData.canLay0], by simp [toPy, PyData.depth]⟩
  | n, .int b, v, _, h => by
    simp only [Rep] at h
    subst h
    exact ⟨.int b, by simp [toPy, PyData.canLay0], by simp [toPy, PyData.depth]⟩
  | n, .str b, v, _, h => by
    simp only [Rep] at h
    subst h
    exact ⟨.str _, by simp [toPy, PyData.canLay0, str_ok], by simp [toPy, PyData.depth]⟩
  | n + 1, .tup xs, v, p, h => by
    simp only [Rep] at h
    obtain ⟨a, vs, rfl, q, r⟩ := h
    simp only [pl] at p
    obtain ⟨h1, h2, h3⟩ := dp_ofL n xs vs p r
    refine ⟨?_, by simpa [toPy, PyData.canLay0] using h2, by simp only [toPy, PyData.depth]; omega⟩
    simp only [toPy]
    exact .tup q h1
  | n + 1, .lst xs, v, p, h => by
    simp only [Rep] at h
    obtain ⟨a, vs, rfl, _, q, r⟩ := h
    simp only [pl] at p
    obtain ⟨h1, h2, h3⟩ := dp_ofL n xs vs p r
    refine ⟨?_, by simpa [toPy, PyData.canLay0] using h2, by simp only [toPy, PyData.depth]; omega⟩
    simp only [toPy]
    exact .lst (.inl q) h1
  | 0, .tup xs, v, p, h => by simp [pl] at p
  | 0, .lst xs, v, p, h => by simp [pl] at p
  | n, .dic _ _, v, p, h => by cases n <;> simp [pl] at p
  | n, .ins _ _, v, p, h => by cases n <;> simp [pl] at p
  | n, .drw _, v, p, h => by cases n <;> simp [pl] at p
theorem dp_ofL {K : Frag} {H : Hp} : ∀ (n : Nat) (ds : List D) (vs : List V), ds.all (pl n) = true → RepL K (fun _ => False) H ds vs → DpAll K H vs (toPyL ds) ∧ PyData.canLayAll0 (toPyL ds) = true ∧ PyData.depthAll (toPyL ds) ≤ n
  | n, [], vs, _, h => by
    simp only [RepL] at h
    subst h
    exact ⟨.nil, by simp [toPyL, PyData.canLayAll0], by simp [toPyL, PyData.depthAll]⟩
  | n, d :: ds, vs, p, h => by
    simp only [RepL] at h
    obtain ⟨v, r, rfl, h1, h2⟩ := h
    simp only [List.all_cons, Bool.and_eq_true] at p
    obtain ⟨a1, a2, a3⟩ := dp_of n d v p.1 h1
    obtain ⟨b1, b2, b3⟩ := dp_ofL n ds r p.2 h2
    refine ⟨.cons a1 b1, by simp [toPyL, PyData.canLayAll0, a2, b2], by simp only [toPyL, PyData.depthAll]; omega⟩
end
mutual
theorem eqv_py : ∀ (d e : D) (n m : Nat), pl n d = true → pl m e = true → PyData.eqv (toPy d) (toPy e) = eqv d e
  | .non, e, n, m, _, q => by cases e <;> first | (cases m <;> simp [pl] at q; done) | simp [toPy, PyData.eqv, eqv]
  | .bl b, e, n, m, _, _ => by cases e <;> simp [toPy, PyData.eqv, eqv, b2i]
  | .int b, e, n, m, _, _ => by cases e <;> simp [toPy, PyData.eqv, eqv, b2i]
  | .str b, e, n, m, _, _ => by
    cases e with
    | str c =>
      simp only [toPy, PyData.eqv, eqv]
      by_cases q : b = c
      · subst q
        simp
      · rw [beq_eq_false_iff_ne.mpr q]
        exact beq_eq_false_iff_ne.mpr fun z => q (ofS_inj z)
    | _ => simp [toPy, PyData.eqv, eqv]
  | .tup xs, e, n, m, p, q => by
    cases e with
    | tup ys =>
      cases n with
      | zero => simp [pl] at p
      | succ n =>
        cases m with
        | zero => simp [pl] at q
        | succ m =>
          simp only [toPy, PyData.eqv, eqv]
          exact eqv_pyL xs ys n m (by simpa only [pl] using p) (by simpa only [pl] using q)
    | _ => simp [toPy, PyData.eqv, eqv]
  | .lst xs, e, n, m, p, q => by
    cases e with
    | lst ys =>
      cases n with
      | zero => simp [pl] at p
      | succ n =>
        cases m with
        | zero => simp [pl] at q
        | succ m =>
          simp only [toPy, PyData.eqv, eqv]
          exact eqv_pyL xs ys n m (by simpa only [pl] using p) (by simpa only [pl] using q)
    | _ => simp [toPy, PyData.eqv, eqv]
  | .dic _ _, e, n, m, p, _ => by cases n <;> simp [pl] at p
  | .ins _ _, e, n, m, p, _ => by cases n <;> simp [pl] at p
  | .drw _, e, n, m, p, _ => by cases n <;> simp [pl] at p
theorem eqv_pyL : ∀ (ds es : List D) (n m : Nat), ds.all (pl n) = true → es.all (pl m) = true → PyData.eqvAll (toPyL ds) (toPyL es) = eqv.eqvL ds es
  | [], [], _, _, _, _ => by simp [toPyL, PyData.eqvAll, eqv.eqvL]
  | [], _ :: _, _, _, _, _ => by simp [toPyL, PyData.eqvAll, eqv.eqvL]
  | _ :: _, [], _, _, _, _ => by simp [toPyL, PyData.eqvAll, eqv.eqvL]
  | d :: ds, e :: es, n, m, p, q => by
    simp only [List.all_cons, Bool.and_eq_true] at p q
    simp only [toPyL, PyData.eqvAll, eqv.eqvL]
    rw [eqv_py d e n m p.1 q.1, eqv_pyL ds es n m p.2 q.2]
end
/-! ### two operands, one operand -/
def r2 (K : Frag) (f : D → D → Res D) : R2 := fun x y H Q => ∃ A d1 d2 d, RepW K A H d1 x ∧ RepW K A H d2 y ∧ (∀ a, A a → H a ≠ none) ∧ f d1 d2 = .ok d ∧ ∀ v H', Same H H' → Rep K A H' d v → Q v H'
def r1 (K : Frag) (f : D → Res D) : V → Hp → VK → Prop := fun x H Q => ∃ A d1 d, RepW K A H d1 x ∧ (∀ a, A a → H a ≠ none) ∧ f d1 = .ok d ∧ ∀ v H', Same H H' → Rep K A H' d v → Q v H'
/-- no error, nothing drawn -/
def Res.isP {α : Type} : Res α → Bool
  | .ok _ => true | .stuck => true | _ => false
def NoEx2 (f : D → D → Res D) : Prop := ∀ x y (_ _ : Unit), (f x y).isP = true
def NoEx1 (f : D → Res D) : Prop := ∀ x (_ _ : Unit), (f x).isP = true
theorem NoEx2.exc {f : D → D → Res D} (h : NoEx2 f) {x y : D} {c : String} {fs : List (String × D)} (e : f x y = .exc c fs) : False := by
  have := h x y () ()
  rw [e] at this
  cases this
theorem NoEx2.pick {f : D → D → Res D} (h : NoEx2 f) {x y : D} {n : Nat} {k : Nat → Res D} (e : f x y = .pick n k) : False := by
  have := h x y () ()
  rw [e] at this
  cases this
theorem NoEx1.exc {f : D → Res D} (h : NoEx1 f) {x : D} {c : String} {fs : List (String × D)} (e : f x = .exc c fs) : False := by
  have := h x () ()
  rw [e] at this
  cases this
theorem NoEx1.pick {f : D → Res D} (h : NoEx1 f) {x : D} {n : Nat} {k : Nat → Res D} (e : f x = .pick n k) : False := by
  have := h x () ()
  rw [e] at this
  cases this
theorem leaf_bind {α β : Type} {r : Res α} {f : α → Res β} {b : β} (h : Res.leaf b (r >>= f)) : ∃ a, Res.leaf a r ∧ Res.leaf b (f a) := by
  induction r with
  | ok a => exact ⟨a, rfl, h⟩
  | exc c fs => exact h.elim
  | stuck => exact h.elim
  | pick n k ih =>
    rw [bind_pick] at h
    obtain ⟨i, hi, q⟩ := h
    obtain ⟨a, h1, h2⟩ := ih i q
    exact ⟨a, ⟨i, hi, h1⟩, h2⟩
theorem leaf_isP {α : Type} {r : Res α} {d : α} (h : r.isP = true) (l : Res.leaf d r) : r = .ok d := by
  cases r with
  | ok a => exact congrArg Res.ok l
  | exc c fs => exact l.elim
  | stuck => exact l.elim
  | pick n k => cases h
theorem r2_of {K : Frag} {A : AS} {W : WX} {O : OW} {σ : L2.St} {H0 : Base} {f : D → D → Res D} (hf : NoEx2 f) {x y : V} {H : Hp} {Q : VK} {d1 d2 : D} (h1 : RepW K A H d1 x) (h2 : RepW K A H d2 y) (ha : ∀ a, A a → H a ≠ none)
    {bad : String → List (String × D) → Prop} (h : Out (f d1 d2) (fun d => ∀ v H', Same H H' → Rep K A H' d v → Q v H') bad) : r2 K f x y H Q := by
  cases e : f d1 d2 with
  | ok d =>
    rw [e] at h
    exact ⟨A, d1, d2, d, h1, h2, ha, e, h⟩
  | exc c fs => exact (hf.exc e).elim
  | pick _ _ => exact (hf.pick e).elim
  | stuck =>
    rw [e] at h
    exact h.elim
theorem RepU.move {K : Frag} {A : AS} {H H' : Hp} (s : Same H H') {d : D} {v : V} (h : RepU K A H d v) : RepU K A H' d v := by
  cases d with
  | lst xs =>
    obtain ⟨a, vs, e, q, r⟩ := h
    refine ⟨a, vs, e, ?_, RepL.move (Mv.same s) _ _ r⟩
    rcases q with q | ⟨o, q⟩
    · exact .inl (s _ _ q)
    · exact .inr ⟨o, s _ _ q⟩
  | dic t kvs =>
    obtain ⟨a, e, q⟩ := h
    refine ⟨a, e, ?_⟩
    rcases q with ⟨ht, ks, q, r⟩ | ⟨ht, es, q, r⟩
    · exact .inl ⟨ht, ks, s _ _ q, RepK.move (Mv.same s) _ _ r⟩
    · exact .inr ⟨ht, es, s _ _ q, RepT.move (Mv.same s) _ _ r⟩
  | _ => exact Rep.move (Mv.same s) _ _ h
theorem RepV.move {K : Frag} {A : AS} {H H' : Hp} {c : String} (s : Same H H') : ∀ {fs : List (String × D)} {vs : List (Str × V)}, RepV K A H c fs vs → RepV K A H' c fs vs
  | [], vs, h => h
  | (n, d) :: fs, vs, h => by
    obtain ⟨v, q, e, h1, h2⟩ := h
    refine ⟨v, q, e, ?_, RepV.move s h2⟩
    cases hi : inn c n with
    | true =>
      rw [hi] at h1
      exact RepU.move s h1
    | false =>
      rw [hi] at h1
      exact Rep.move (Mv.same s) _ _ h1
theorem RepW.move {K : Frag} {A : AS} {H H' : Hp} (s : Same H H') {d : D} {v : V} (h : RepW K A H d v) : RepW K A H' d v := by
  cases d with
  | lst xs =>
    obtain ⟨a, vs, e, q, r⟩ := h
    refine ⟨a, vs, e, ?_, RepL.move (Mv.same s) _ _ r⟩
    rcases q with q | ⟨o, q⟩
    · exact .inl (s _ _ q)
    · exact .inr ⟨o, s _ _ q⟩
  | ins c fs =>
    obtain ⟨a, dx, fvs, e, q, r⟩ := h
    exact ⟨a, dx, fvs, e, s _ _ q, RepV.move s r⟩
  | dic t kvs =>
    obtain ⟨a, e, q⟩ := h
    refine ⟨a, e, ?_⟩
    rcases q with ⟨ht, ks, q, r⟩ | ⟨ht, es, q, r⟩
    · exact .inl ⟨ht, ks, s _ _ q, RepK.move (Mv.same s) _ _ r⟩
    · exact .inr ⟨ht, es, s _ _ q, RepT.move (Mv.same s) _ _ r⟩
  | _ => exact Rep.move (Mv.same s) _ _ h
section
variable {X : Cx} [CW X] {W : WX} {A : AS} {H0 : Base} {ow : Ow} {a b : Expr} {ma mb : EM} {pos : Pos}
theorem two_of {f : D → D → Res D} (hf : NoEx2 f) {σ : L2.St} {H : Hp} {Q : VK} (h : tE X.K W ow (bin f ma mb) σ H Q) : tOp (r2 X.K f) (tW X.K W ow ma) (tW X.K W ow mb) σ H Q := by
  obtain ⟨A, H0, O, en, R, q⟩ := h
  refine ⟨A, H0, O, en, R, (Out.bind q).good fun d1 q1 v1 H1 s1 r1 => ?_⟩
  refine ⟨A, H0, O, en, R.to s1, ((Out.bind q1).to s1).good fun d2 q2 v2 H2 s2 r2 => ?_⟩
  have R2 := (R.to s1).to s2
  exact r2_of (W := W) (O := O) (σ := σ) (H0 := H0) hf (r1.move s2) r2 R2.there (q2.good fun d k v H' s' r => k v H' ((s1.trans s2).trans s') r)
theorem one_of {f : D → Res D} (hf : NoEx1 f) {σ : L2.St} {H : Hp} {Q : VK} (h : tE X.K W ow (un f ma) σ H Q) : tUn (r1 X.K f) (tW X.K W ow ma) σ H Q := by
  obtain ⟨A, H0, O, en, R, q⟩ := h
  refine ⟨A, H0, O, en, R, (Out.bind q).good fun d1 q1 v1 H1 s1 r1 => ?_⟩
  have R2 := R.to s1
  cases e : f d1 with
  | ok d =>
    rw [e] at q1
    exact ⟨_, d1, d, r1, R2.there, e, fun v H' s' r => q1 v H' (s1.trans s') r⟩
  | exc c fs => exact (hf.exc e).elim
  | pick _ _ => exact (hf.pick e).elim
  | stuck =>
    rw [e] at q1
    exact q1.elim
theorem x_bin {op : Operator} {f : D → D → Res D} (ho : OpR X (binaryOp op) (r2 X.K f)) (hf : NoEx2 f) (ha : PE X a (tW X.K W ow ma)) (hb : PE X b (tW X.K W ow mb)) : PE X (.BinOp a op b pos) (tE X.K W ow (bin f ma mb)) :=
  PE.of (pe_op ho ha hb) fun _ _ _ h => two_of hf h
theorem x_un {op : UnaryOp} {f : D → Res D} (ho : UnR X (unaryOp op) (r1 X.K f)) (hf : NoEx1 f) (ha : PE X a (tW X.K W ow ma)) : PE X (.UnaryOp op a pos) (tE X.K W ow (un f ma)) :=
  PE.of (pe_un ho ha) fun _ _ _ h => one_of hf h
theorem x_cmp {op : CmpOp} {f : D → D → Res D} (ho : OpR X (compareOp op) (r2 X.K f)) (hf : NoEx2 f) (ha : PE X a (tW X.K W ow ma)) (hb : PE X b (tW X.K W ow mb)) (hm : behindInMarks op b = false) : PE X (.Compare a [op] [b] pos) (tE X.K W ow (bin f ma mb)) :=
  PE.of (pe_cmpR ho ha hb hm) fun _ _ _ h => two_of hf h
/-! ### ints -/
theorem rep_int {K : Frag} {A : AS} {H : Hp} {i : Int} {v : V} (h : RepW K A H (.int i) v) : v = .int i := h
theorem imp2 {g : Value → Value → Sem Value} {r r' : R2} (h : OpR X g r) (k : ∀ x y H Q, r' x y H Q → r x y H Q) : OpR X g r' := fun pins s σ H x y v u Q I rx ry q => h pins s σ H x y v u Q I rx ry (k x y H Q q)
theorem imp1 {g : Value → Sem Value} {r r' : V → Hp → VK → Prop} (h : UnR X g r) (k : ∀ x H Q, r' x H Q → r x H Q) : UnR X g r' := fun pins s σ H x v Q I rx q => h pins s σ H x v Q I rx (k x H Q q)
theorem int_op {g : Value → Value → Sem Value} {f : D → D → Res D} {C : Int → Int → Prop} {z : Int → Int → V} {zd : Int → Int → D} (h : OpR X g (rI C z))
    (hz : ∀ i j, flat (zd i j) = some (z i j)) (hf : ∀ d1 d2 d, f d1 d2 = .ok d → ∃ i j, d1 = .int i ∧ d2 = .int j ∧ C i j ∧ d = zd i j) : OpR X g (r2 X.K f) := imp2 h fun x y H Q ⟨A, d1, d2, d, h1, h2, _, e, k⟩ => by
  obtain ⟨i, j, rfl, rfl, c, rfl⟩ := hf d1 d2 d e
  exact ⟨i, j, rep_int h1, rep_int h2, c, k _ H (Same.refl H) (flat_rep (hz i j) _ _)⟩
theorem rI_of {g : Value → Value → Sem Value} {z : Int → Int → V} (h : OpR X g (rI0 z)) : OpR X g (rI (fun _ _ => True) z) := imp2 h fun x y H Q ⟨i, j, e1, e2, _, q⟩ => ⟨i, j, e1, e2, q⟩
theorem y_sub : OpR X (binaryOp .Sub) (r2 X.K osub) := int_op (rI_of op_sub) (zd := fun i j => .int (i - j)) (fun _ _ => rfl) fun d1 d2 d e => by
  cases d1 <;> cases d2 <;> simp only [osub, Res.ok.injEq, reduceCtorEq] at e
  exact ⟨_, _, rfl, rfl, trivial, e.symm⟩
theorem y_mul : OpR X (binaryOp .Mult) (r2 X.K omul) := int_op op_mul (zd := fun i j => .int (i * j)) (fun _ _ => rfl) fun d1 d2 d e => by
  cases d1 <;> cases d2 <;> simp only [omul, reduceCtorEq] at e
  split at e
  · rename_i c
    refine ⟨_, _, rfl, rfl, ?_, ?_⟩
    · simp only [B64] at c
      unfold CMul
      have e64 : (2 : Int) ^ 64 = 18446744073709551616 := by decide
      rw [e64]
      omega
    · simp only [Res.ok.injEq] at e
      exact e.symm
  · cases e
theorem y_fdiv : OpR X (binaryOp .FloorDiv) (r2 X.K ofdiv) := int_op op_fdiv (zd := fun i j => .int (i / j)) (fun _ _ => rfl) fun d1 d2 d e => by
  cases d1 <;> cases d2 <;> simp only [ofdiv, reduceCtorEq] at e
  split at e
  · rename_i c
    simp only [Res.ok.injEq] at e
    exact ⟨_, _, rfl, rfl, c, e.symm⟩
  · cases e
theorem y_mod : OpR X (binaryOp .Mod) (r2 X.K omod) := int_op op_mod (zd := fun i j => .int (i % j)) (fun _ _ => rfl) fun d1 d2 d e => by
  cases d1 <;> cases d2 <;> simp only [omod, reduceCtorEq] at e
  split at e
  · rename_i c
    simp only [Res.ok.injEq] at e
    exact ⟨_, _, rfl, rfl, c, e.symm⟩
  · cases e
theorem y_pow : OpR X (binaryOp .Pow) (r2 X.K opow) := int_op op_pow (zd := fun i j => .int (i ^ j.toNat)) (fun _ _ => rfl) fun d1 d2 d e => by
  cases d1 <;> cases d2 <;> simp only [opow, reduceCtorEq] at e
  split at e
  · rename_i c
    simp only [Res.ok.injEq] at e
    refine ⟨_, _, rfl, rfl, ?_, e.symm⟩
    have e64 : (2 : Nat) ^ 64 = 18446744073709551616 := by decide
    unfold CPow
    rw [e64]
    exact c
  · cases e
theorem y_shl : OpR X (binaryOp .LShift) (r2 X.K oshl) := int_op op_shlW (zd := fun i j => .int (i * 2 ^ j.toNat)) (fun _ _ => rfl) fun d1 d2 d e => by
  cases d1 <;> cases d2 <;> simp only [oshl, reduceCtorEq] at e
  split at e
  · rename_i c
    simp only [Res.ok.injEq] at e
    refine ⟨_, _, rfl, rfl, ?_, e.symm⟩
    have e64 : (2 : Int) ^ 27 = 134217728 := by decide
    unfold CShl
    rw [e64]
    exact c
  · cases e
theorem y_shr : OpR X (binaryOp .RShift) (r2 X.K oshr) := int_op op_shr (zd := fun i j => .int (i / 2 ^ j.toNat)) (fun _ _ => rfl) fun d1 d2 d e => by
  cases d1 <;> cases d2 <;> simp only [oshr, reduceCtorEq] at e
  split at e
  · rename_i c
    simp only [Res.ok.injEq] at e
    exact ⟨_, _, rfl, rfl, c, e.symm⟩
  · cases e
theorem y_and : OpR X (binaryOp .BitAnd) (r2 X.K oand) := int_op (rI_of op_and) (zd := fun i j => .int (Builtin.bitAnd i j)) (fun _ _ => rfl) fun d1 d2 d e => by
  cases d1 <;> cases d2 <;> simp only [oand, Res.ok.injEq, reduceCtorEq] at e
  exact ⟨_, _, rfl, rfl, trivial, e.symm⟩
theorem y_or : OpR X (binaryOp .BitOr) (r2 X.K oor) := int_op (rI_of op_or) (zd := fun i j => .int (Builtin.bitOr i j)) (fun _ _ => rfl) fun d1 d2 d e => by
  cases d1 <;> cases d2 <;> simp only [oor, Res.ok.injEq, reduceCtorEq] at e
  exact ⟨_, _, rfl, rfl, trivial, e.symm⟩
theorem y_xor : OpR X (binaryOp .BitXor) (r2 X.K oxor) := int_op (rI_of op_xor) (zd := fun i j => .int (Builtin.bitXor i j)) (fun _ _ => rfl) fun d1 d2 d e => by
  cases d1 <;> cases d2 <;> simp only [oxor, Res.ok.injEq, reduceCtorEq] at e
  exact ⟨_, _, rfl, rfl, trivial, e.symm⟩
theorem y_lt : OpR X (compareOp .Lt) (r2 X.K olt) := int_op (rI_of op_lt) (zd := fun i j => .bl (decide (i < j))) (fun _ _ => rfl) fun d1 d2 d e => by
  cases d1 <;> cases d2 <;> simp only [olt, Res.ok.injEq, reduceCtorEq] at e
  exact ⟨_, _, rfl, rfl, trivial, e.symm⟩
theorem y_le : OpR X (compareOp .LtE) (r2 X.K ole) := int_op (rI_of op_le) (zd := fun i j => .bl (decide (i ≤ j))) (fun _ _ => rfl) fun d1 d2 d e => by
  cases d1 <;> cases d2 <;> simp only [ole, Res.ok.injEq, reduceCtorEq] at e
  exact ⟨_, _, rfl, rfl, trivial, e.symm⟩
theorem y_gt : OpR X (compareOp .Gt) (r2 X.K ogt) := int_op (rI_of op_gt) (zd := fun i j => .bl (decide (j < i))) (fun _ _ => rfl) fun d1 d2 d e => by
  cases d1 <;> cases d2 <;> simp only [ogt, Res.ok.injEq, reduceCtorEq] at e
  exact ⟨_, _, rfl, rfl, trivial, e.symm⟩
theorem y_ge : OpR X (compareOp .GtE) (r2 X.K oge) := int_op (rI_of op_ge) (zd := fun i j => .bl (decide (j ≤ i))) (fun _ _ => rfl) fun d1 d2 d e => by
  cases d1 <;> cases d2 <;> simp only [oge, Res.ok.injEq, reduceCtorEq] at e
  exact ⟨_, _, rfl, rfl, trivial, e.symm⟩
theorem y_neg : UnR X (unaryOp .USub) (r1 X.K oneg) := imp1 un_neg fun x H Q ⟨A, d1, d, h1, _, e, k⟩ => by
  cases d1 <;> simp only [oneg, Res.ok.injEq, reduceCtorEq] at e
  subst e
  exact ⟨_, rep_int h1, k _ H (Same.refl H) (flat_rep rfl _ _)⟩
/-! ### == and in -/
theorem y_eq (hu : X.A.units + 64 < cLine) : OpR X (compareOp .Eq) (r2 X.K oeq) := imp2 (op_eqD hu) fun x y H Q ⟨A, d1, d2, d, h1, h2, _, e, k⟩ => by
  unfold oeq at e
  split at e
  · rename_i c
    rw [Bool.and_eq_true] at c
    simp only [Res.ok.injEq] at e
    subst e
    obtain ⟨a1, a2, a3⟩ := dp_of 64 d1 x c.1 h1.none
    obtain ⟨b1, b2, b3⟩ := dp_of 64 d2 y c.2 h2.none
    refine ⟨_, _, a1, b1, ?_, ?_, ?_⟩
    · unfold SeqAt.shaped
      rw [a2, decide_eq_true a3]
      rfl
    · unfold SeqAt.shaped
      rw [b2, decide_eq_true b3]
      rfl
    · rw [eqv_py d1 d2 64 64 c.1 c.2]
      exact k _ H (Same.refl H) (flat_rep rfl _ _)
  · cases e
theorem y_ne (hu : X.A.units + 64 < cLine) : OpR X (compareOp .NotEq) (r2 X.K one) := imp2 (op_neD hu) fun x y H Q ⟨A, d1, d2, d, h1, h2, _, e, k⟩ => by
  unfold one at e
  split at e
  · rename_i c
    rw [Bool.and_eq_true] at c
    simp only [Res.ok.injEq] at e
    subst e
    obtain ⟨a1, a2, a3⟩ := dp_of 64 d1 x c.1 h1.none
    obtain ⟨b1, b2, b3⟩ := dp_of 64 d2 y c.2 h2.none
    refine ⟨_, _, a1, b1, ?_, ?_, ?_⟩
    · unfold SeqAt.shaped
      rw [a2, decide_eq_true a3]
      rfl
    · unfold SeqAt.shaped
      rw [b2, decide_eq_true b3]
      rfl
    · rw [eqv_py d1 d2 64 64 c.1 c.2]
      exact k _ H (Same.refl H) (flat_rep rfl _ _)
  · cases e
theorem flat_v {K : Frag} {A : AS} {H : Hp} {d : D} {v : V} (f : flatD d = true) (h : Rep K A H d v) : flatV v = true ∧ ∀ {e : D} {w : V}, flatD e = true → Rep K A H e w → eqV v w = eqv d e := by
  cases d <;> simp only [flatD, reduceCtorEq] at f <;> simp only [Rep] at h <;> subst h <;> refine ⟨rfl, ?_⟩ <;> intro e w fe he <;> cases e <;> simp only [flatD, reduceCtorEq] at fe <;> simp only [Rep] at he <;> subst he <;> simp only [eqV, eqv, b2i]
  rename_i b c
  by_cases q : b = c
  · subst q
    simp
  · rw [beq_eq_false_iff_ne.mpr q]
    exact beq_eq_false_iff_ne.mpr fun z => q (ofS_inj z)
theorem flat_all {K : Frag} {A : AS} {H : Hp} {x : D} {w : V} (fx : flatD x = true) (hx : Rep K A H x w) : ∀ {ds : List D} {vs : List V}, ds.all flatD = true → RepL K A H ds vs → vs.all flatV = true ∧ inV w vs = mem x ds
  | [], vs, _, h => by
    simp only [RepL] at h
    subst h
    exact ⟨rfl, rfl⟩
  | d :: ds, vs, f, h => by
    simp only [RepL] at h
    obtain ⟨v, r, rfl, h1, h2⟩ := h
    simp only [List.all_cons, Bool.and_eq_true] at f
    obtain ⟨a1, a2⟩ := flat_v f.1 h1
    obtain ⟨b1, b2⟩ := flat_all fx hx f.2 h2
    refine ⟨by simp only [List.all_cons, a1, b1, Bool.and_self], ?_⟩
    unfold inV at b2 ⊢
    simp only [List.any_cons, mem, a2 fx hx, b2]
theorem flatW {K : Frag} {A : AS} {H : Hp} {d : D} {v : V} (f : flatD d = true) (h : RepW K A H d v) : Rep K A H d v := by
  cases d <;> simp only [flatD, reduceCtorEq] at f <;> exact h
theorem in_of {K : Frag} {neg : Bool} {f : D → D → Res D} (hf : ∀ x y d, f x y = .ok d → ∃ ys, (y = .lst ys ∨ y = .tup ys) ∧ flatD x = true ∧ ys.all flatD = true ∧ d = .bl (if neg then !mem x ys else mem x ys)) :
    ∀ x y H Q, r2 K f x y H Q → rIn K neg x y H Q := fun x y H Q ⟨A, d1, d2, d, h1, h2, _, e, k⟩ => by
  obtain ⟨ys, hy, fx, fy, rfl⟩ := hf d1 d2 d e
  have g1 := flatW fx h1
  obtain ⟨a, vs, rfl, hq, r⟩ : ∃ a vs, y = .ref a ∧ (SqL K H a vs ∨ SqT K H a vs) ∧ RepL K A H ys vs := by
    rcases hy with rfl | rfl
    · obtain ⟨a, vs, e, q, r⟩ := h2
      exact ⟨a, vs, e, .inl (.inl q), r⟩
    · obtain ⟨a, vs, e, q, r⟩ := (by simpa only [RepW, Rep] using h2 : ∃ a vs, y = .ref a ∧ SqT K H a vs ∧ RepL K A H ys vs)
      exact ⟨a, vs, e, .inr q, r⟩
  obtain ⟨b1, b2⟩ := flat_all fx g1 fy r
  refine ⟨a, vs, rfl, hq, (flat_v fx g1).1, b1, ?_⟩
  rw [b2]
  exact k _ H (Same.refl H) (flat_rep rfl _ _)
def isDic : D → Bool
  | .dic _ _ => true
  | _ => false
theorem y_in (hu : X.A.units + 16 < cLine) : OpR X (compareOp .In) (r2 X.K oin) := by
  have base : OpR X (compareOp .In) (fun x y H Q => ∃ A d1 d2 d, isDic d2 = false ∧ RepW X.K A H d1 x ∧ RepW X.K A H d2 y ∧ (∀ a, A a → H a ≠ none) ∧ oin d1 d2 = .ok d ∧ ∀ v H', Same H H' → Rep X.K A H' d v → Q v H') :=
    imp2 op_in_seq fun x y H Q ⟨A, d1, d2, d, hd, h1, h2, h3, e, k⟩ => by
      have q : r2 X.K (fun a b => if isDic b then Res.stuck else oin a b) x y H Q := ⟨A, d1, d2, d, h1, h2, h3, by show (if isDic d2 = true then Res.stuck else oin d1 d2) = _; rw [hd]; exact e, k⟩
      refine in_of (f := fun a b => if isDic b then Res.stuck else oin a b) (neg := false) (fun x y d e => ?_) x y H Q q
      cases y with
      | tup xs =>
        have e : oin x (.tup xs) = .ok d := e
        simp only [oin] at e
        split at e
        · rename_i c
          rw [Bool.and_eq_true] at c
          simp only [Res.ok.injEq] at e
          exact ⟨xs, .inr rfl, c.1, c.2, e.symm⟩
        · cases e
      | lst xs =>
        have e : oin x (.lst xs) = .ok d := e
        simp only [oin] at e
        split at e
        · rename_i c
          rw [Bool.and_eq_true] at c
          simp only [Res.ok.injEq] at e
          exact ⟨xs, .inl rfl, c.1, c.2, e.symm⟩
        · cases e
      | _ => simp [oin, isDic] at e
  intro pins s σ H x y v u Q I rx ry ⟨A, d1, d2, d, h1, h2, h3, e, k⟩
  cases hd : isDic d2 with
  | false => exact base pins s σ H x y v u Q I rx ry ⟨A, d1, d2, d, hd, h1, h2, h3, e, k⟩
  | true =>
    cases d2 <;> simp only [isDic, reduceCtorEq] at hd
    rename_i t kvs
    simp only [oin] at e
    split at e
    · rename_i hk
      simp only [Res.ok.injEq] at e
      subst e
      obtain ⟨a, rfl, g⟩ := h2
      cases (show u = Value.ref a from ry)
      have h1' : Rep X.K A H d1 x := by
        cases d1 <;> first | exact h1 | (cases t <;> simp [keyOk] at hk)
      exact dic_in hu I g hk h1' rx fun s' I' => ⟨.bl (find d1 kvs).isSome, H, I', rfl, k _ H (Same.refl H) rfl⟩
    · cases e
theorem y_notin (hu : X.A.units + 16 < cLine) : OpR X (compareOp .NotIn) (r2 X.K onotin) := by
  have base : OpR X (compareOp .NotIn) (fun x y H Q => ∃ A d1 d2 d, isDic d2 = false ∧ RepW X.K A H d1 x ∧ RepW X.K A H d2 y ∧ (∀ a, A a → H a ≠ none) ∧ onotin d1 d2 = .ok d ∧ ∀ v H', Same H H' → Rep X.K A H' d v → Q v H') :=
    imp2 op_notIn_seq fun x y H Q ⟨A, d1, d2, d, hd, h1, h2, h3, e, k⟩ => by
      have q : r2 X.K (fun a b => if isDic b then Res.stuck else onotin a b) x y H Q := ⟨A, d1, d2, d, h1, h2, h3, by show (if isDic d2 = true then Res.stuck else onotin d1 d2) = _; rw [hd]; exact e, k⟩
      refine in_of (f := fun a b => if isDic b then Res.stuck else onotin a b) (neg := true) (fun x y d e => ?_) x y H Q q
      cases y with
      | tup xs =>
        have e : onotin x (.tup xs) = .ok d := e
        simp only [onotin] at e
        split at e
        · rename_i c
          rw [Bool.and_eq_true] at c
          simp only [Res.ok.injEq] at e
          exact ⟨xs, .inr rfl, c.1, c.2, e.symm⟩
        · cases e
      | lst xs =>
        have e : onotin x (.lst xs) = .ok d := e
        simp only [onotin] at e
        split at e
        · rename_i c
          rw [Bool.and_eq_true] at c
          simp only [Res.ok.injEq] at e
          exact ⟨xs, .inl rfl, c.1, c.2, e.symm⟩
        · cases e
      | _ => simp [onotin, isDic] at e
  intro pins s σ H x y v u Q I rx ry ⟨A, d1, d2, d, h1, h2, h3, e, k⟩
  cases hd : isDic d2 with
  | false => exact base pins s σ H x y v u Q I rx ry ⟨A, d1, d2, d, hd, h1, h2, h3, e, k⟩
  | true =>
    cases d2 <;> simp only [isDic, reduceCtorEq] at hd
    rename_i t kvs
    simp only [onotin] at e
    split at e
    · rename_i hk
      simp only [Res.ok.injEq] at e
      subst e
      obtain ⟨a, rfl, g⟩ := h2
      cases (show u = Value.ref a from ry)
      have h1' : Rep X.K A H d1 x := by
        cases d1 <;> first | exact h1 | (cases t <;> simp [keyOk] at hk)
      exact dic_notIn hu I g hk h1' rx fun s' I' => ⟨.bl (!(find d1 kvs).isSome), H, I', rfl, k _ H (Same.refl H) rfl⟩
    · cases e
/-! ### + -/
theorem RepL.empty {K : Frag} {A : AS} {H : Hp} {ds : List D} {vs : List V} (h : RepL K A H ds vs) : ds = [] ↔ vs = [] := by
  have := h.length
  constructor
  · intro e
    subst e
    exact List.eq_nil_of_length_eq_zero this.symm
  · intro e
    subst e
    exact List.eq_nil_of_length_eq_zero this
/-- a new object is clean -/
theorem new_same {H : Hp} {p : Addr} {o : HO} (h : H p = none) : Same H (upd H p o) := fun b u e => by
  rw [upd_ne (ne_of_none e h)]
  exact e
theorem new_tup {K : Frag} {A : AS} {H : Hp} {ds : List D} {vs : List V} (r : RepL K A H ds vs) {p : Addr} (h : H p = none) : Rep K A (upd H p (.tup vs)) (.tup ds) (.ref p) := by
  simp only [Rep]
  exact ⟨p, vs, rfl, .inl (.inl upd_same), RepL.move (Mv.same (new_same h)) _ _ r⟩
theorem new_lst {K : Frag} {A : AS} {H : Hp} (ha : ∀ a, A a → H a ≠ none) {ds : List D} {vs : List V} (r : RepL K A H ds vs) {p : Addr} (h : H p = none) : Rep K A (upd H p (.lst vs)) (.lst ds) (.ref p) := by
  simp only [Rep]
  exact ⟨p, vs, rfl, fun z => ha p z h, .inl upd_same, RepL.move (Mv.same (new_same h)) _ _ r⟩
theorem str_app (a b : String) : Str.ofString a ++ Str.ofString b = Str.ofString (a ++ b) := by
  simp only [Str.ofString_eq_toList]
  show Str.append _ _ = _
  simp [Str.append]
theorem lst_at {pins : List (Addr × Obj)} {σ : L2.St} {H : Hp} {s : Shared} (I : Inv X pins σ H s) {a : Addr} {vs : List V} (h : Rd H a (.lst vs)) :
    vs.length ≤ sizeLine ∧ ∃ (its : List Value) (n : Nat), Vals vs its ∧ s.heap.get? a = some { cls := .type "list", data := .seq its.toArray n } := h.ok I.hok
theorem y_add : OpR X (binaryOp .Add) (r2 X.K oadd) := by
  intro pins s σ H x y v u Q I rx ry ⟨A, d1, d2, d, h1, h2, ha, e, k⟩
  cases d1 with
  | int i =>
    cases d2 <;> simp only [oadd, Res.ok.injEq, reduceCtorEq] at e
    subst e
    exact op_add pins s σ H x y v u Q I rx ry ⟨_, _, rep_int h1, rep_int h2, k _ H (Same.refl H) (flat_rep rfl _ _)⟩
  | str i =>
    cases d2 <;> simp only [oadd, Res.ok.injEq, reduceCtorEq] at e
    split at e
    · rename_i j c
      simp only [Res.ok.injEq] at e
      subst e
      refine op_add_str pins s σ H x y v u Q I rx ry ⟨_, _, h1, h2, by rw [str_len, str_len]; exact c, ?_⟩
      rw [str_app]
      exact k _ H (Same.refl H) (flat_rep rfl _ _)
    · cases e
  | tup xs =>
    cases d2 <;> simp only [oadd, Res.ok.injEq, reduceCtorEq] at e
    rename_i ys
    split at e
    · rename_i c
      simp only [Res.ok.injEq] at e
      subst e
      obtain ⟨a, vs, rfl, q1, p1⟩ := (by simpa only [RepW, Rep] using h1 : ∃ a vs, x = .ref a ∧ SqT X.K H a vs ∧ RepL X.K A H xs vs)
      obtain ⟨b, ws, rfl, q2, p2⟩ := (by simpa only [RepW, Rep] using h2 : ∃ a vs, y = .ref a ∧ SqT X.K H a vs ∧ RepL X.K A H ys vs)
      refine op_catA pins s σ H _ _ v u Q I rx ry ⟨a, b, vs, ws, rfl, rfl, q1, q2, by rw [← p1.length, ← p2.length]; exact c, fun z => ?_, fun _ z => ?_, fun _ _ p hp => ?_⟩
      · have z1 := p1.empty.mpr z
        subst z1
        exact k _ H (Same.refl H) h2
      · have z1 := p2.empty.mpr z
        subst z1
        rw [List.append_nil] at k
        exact k _ H (Same.refl H) h1
      · exact k _ _ (new_same hp) (new_tup (p1.append p2) hp)
    · cases e
  | lst xs =>
    cases d2 <;> simp only [oadd, Res.ok.injEq, reduceCtorEq] at e
    rename_i ys
    split at e
    · rename_i c
      simp only [Res.ok.injEq] at e
      subst e
      obtain ⟨a, vs, rfl, q1, p1⟩ := h1
      obtain ⟨b, ws, rfl, q2, p2⟩ := h2
      cases rx
      cases ry
      obtain ⟨z1, its, n, rr1, e1⟩ := lst_at I q1
      obtain ⟨z2, its2, n2, rr2, e2⟩ := lst_at I q2
      have hl1 := rr1.length
      have hl2 := rr2.length
      have hl3 := p1.length
      have hl4 := p2.length
      have hsz : SZ = sizeLine := rfl
      refine PySem.P.add_list e1 e2 ?_ (by rw [List.size_toArray, List.size_toArray]; omega)
      have ea : its.toArray ++ its2.toArray = (its ++ its2).toArray := by simp
      rw [ea]
      exact ⟨.ref _, _, I.lnew (t' := s.toks) (rr1.append rr2) (by rw [List.length_append]; omega), rfl, k _ _ (new_same I.fresh) (new_lst ha (p1.append p2) I.fresh)⟩
    · cases e
  | _ => simp [oadd] at e
end
theorem n_add : NoEx2 oadd := fun x y c fs => by
  cases x <;> cases y <;> simp only [oadd] <;> first | (split <;> rfl) | rfl
theorem n_sub : NoEx2 osub := fun x y c fs => by cases x <;> cases y <;> rfl
theorem n_mul : NoEx2 omul := fun x y c fs => by
  cases x <;> cases y <;> simp only [omul] <;> first | (split <;> rfl) | rfl
theorem n_fdiv : NoEx2 ofdiv := fun x y c fs => by
  cases x <;> cases y <;> simp only [ofdiv] <;> first | (split <;> rfl) | rfl
theorem n_mod : NoEx2 omod := fun x y c fs => by
  cases x <;> cases y <;> simp only [omod] <;> first | (split <;> rfl) | rfl
theorem n_pow : NoEx2 opow := fun x y c fs => by
  cases x <;> cases y <;> simp only [opow] <;> first | (split <;> rfl) | rfl
theorem n_shl : NoEx2 oshl := fun x y c fs => by
  cases x <;> cases y <;> simp only [oshl] <;> first | (split <;> rfl) | rfl
theorem n_shr : NoEx2 oshr := fun x y c fs => by
  cases x <;> cases y <;> simp only [oshr] <;> first | (split <;> rfl) | rfl
theorem n_and : NoEx2 oand := fun x y c fs => by cases x <;> cases y <;> rfl
theorem n_or : NoEx2 oor := fun x y c fs => by cases x <;> cases y <;> rfl
theorem n_xor : NoEx2 oxor := fun x y c fs => by cases x <;> cases y <;> rfl
theorem n_lt : NoEx2 olt := fun x y c fs => by cases x <;> cases y <;> rfl
theorem n_le : NoEx2 ole := fun x y c fs => by cases x <;> cases y <;> rfl
theorem n_gt : NoEx2 ogt := fun x y c fs => by cases x <;> cases y <;> rfl
theorem n_ge : NoEx2 oge := fun x y c fs => by cases x <;> cases y <;> rfl
theorem n_neg : NoEx1 oneg := fun x c fs => by cases x <;> rfl
theorem n_eq : NoEx2 oeq := fun x y c fs => by
  unfold oeq
  split <;> rfl
theorem n_ne : NoEx2 one := fun x y c fs => by
  unfold one
  split <;> rfl
theorem n_in : NoEx2 oin := fun x y c fs => by
  cases y <;> simp only [oin] <;> first | (split <;> rfl) | rfl
theorem n_notin : NoEx2 onotin := fun x y c fs => by
  cases y <;> simp only [onotin] <;> first | (split <;> rfl) | rfl
end Py
/-! Tests, displays, subscripts, attributes, calls of built-ins. -/
namespace Py
variable [WI]
open PySem L2
section
variable {X : Cx} [CW X] {W : WX} {A : AS} {H0 : Base} {ow : Ow} {a b c : Expr} {ma mb mc : EM} {pos : Pos}
/-! ### truths -/
theorem bl_of {K : Frag} {A : AS} {H : Hp} {k : Bool} {v : V} (h : Rep K A H (.bl k) v) : v = .bl k := h
theorem rep_bl {K : Frag} {A : AS} {H : Hp} {k : Bool} : Rep K A H (.bl k) (.bl k) := rfl
theorem x_and {rest : List Expr} (ha : PE X a (tE X.K W ow ma)) (hb : PE X (.BoolOp .And (b :: rest) pos) (tE X.K W ow mb)) : PE X (.BoolOp .And (a :: b :: rest) pos) (tE X.K W ow (andE ma mb)) :=
  PE.of (pe_and ha hb) fun σ H Q ⟨A, H0, O, en, R, q⟩ => ⟨A, H0, O, en, R, (Out.bind q).good fun d q1 v H1 s1 r1 => by
    cases d with
    | bl k =>
      cases k with
      | true =>
        refine ⟨true, bl_of r1, ?_⟩
        rw [if_pos rfl]
        exact ⟨A, H0, O, en, R.to s1, (q1.to s1).good fun d2 q2 v2 H2 s2 r2 => q2 v2 H2 (s1.trans s2) r2⟩
      | false =>
        refine ⟨false, bl_of r1, ?_⟩
        rw [if_neg (by decide)]
        exact q1 _ _ s1 rep_bl
    | _ => exact q1.elim⟩
theorem x_one {op} (h : PE X a (tE X.K W ow ma)) : PE X (.BoolOp op [a] pos) (tE X.K W ow ma) := pe_one h
/-- not x, of a truth -/
theorem x_not (ha : PE X a (tE X.K W ow ma)) : PE X (.UnaryOp .Not a pos) (tE X.K W ow (un onb ma)) :=
  PE.of (pe_not ha) fun σ H Q ⟨A, H0, O, en, R, q⟩ => ⟨A, H0, O, en, R, (Out.bind q).good fun d q1 v H1 s1 r1 => by
    cases d with
    | bl k => exact ⟨k, bl_of r1, q1 _ _ s1 rep_bl⟩
    | _ => exact q1.elim⟩
theorem chain_of {f g : D → D → Res D} (hf : NoEx2 f) (hg : NoEx2 g) {σ : L2.St} {H : Hp} {Q : VK} (h : tE X.K W ow (chain f g ma mb mc) σ H Q) : tChain (r2 X.K f) (r2 X.K g) (tW X.K W ow ma) (tW X.K W ow mb) (tW X.K W ow mc) σ H Q := by
  obtain ⟨A, H0, O, en, R, q⟩ := h
  refine ⟨A, H0, O, en, R, (Out.bind q).good fun d1 q1 v1 H1 s1 r1 => ⟨A, H0, O, en, R.to s1, ((Out.bind q1).to s1).good fun d2 q2 v2 H2 s2 r2 => ?_⟩⟩
  have R2 := (R.to s1).to s2
  have q3 := Out.bind q2
  cases e : f d1 d2 with
  | exc cc fs => exact (hf.exc e).elim
  | pick _ _ => exact (hf.pick e).elim
  | stuck =>
    rw [e] at q3
    exact q3.elim
  | ok d =>
    rw [e] at q3
    refine ⟨_, d1, d2, d, r1.move s2, r2, R2.there, e, fun v3 H3 s3 r3 => ?_⟩
    have q4 : Out _ _ _ := q3
    cases d with
    | bl k =>
      cases k with
      | false =>
        refine ⟨false, bl_of r3, ?_⟩
        rw [if_neg (by decide)]
        exact q4 _ _ ((s1.trans s2).trans s3) rep_bl
      | true =>
        refine ⟨true, bl_of r3, ?_⟩
        rw [if_pos rfl]
        refine ⟨A, H0, O, en, R2.to s3, ((Out.bind q4).to ((s1.trans s2).trans s3)).good fun d4 q5 v4 H4 s4 r4 => ?_⟩
        exact r2_of (W := W) (O := O) (σ := σ) (H0 := H0) hg (r2.move (s3.trans s4)) r4 ((R2.to s3).to s4).there (q5.good fun d k v H' s' r => k v H' ((((s1.trans s2).trans s3).trans s4).trans s') r)
    | _ => exact q4.elim
theorem x_chain {op op' : CmpOp} {f g : D → D → Res D} (ho : OpR X (compareOp op) (r2 X.K f)) (ho' : OpR X (compareOp op') (r2 X.K g)) (hf : NoEx2 f) (hg : NoEx2 g)
    (ha : PE X a (tW X.K W ow ma)) (hb : PE X b (tW X.K W ow mb)) (hc : PE X c (tW X.K W ow mc))
    (hm : lastMarks [op, op'] [b, c] = false := by with_unfolding_all rfl) : PE X (.Compare a [op, op'] [b, c] pos) (tE X.K W ow (chain f g ma mb mc)) :=
  PE.of (pe_chain ho ho' ha hb hc hm) fun _ _ _ h => chain_of hf hg h
/-! ### tests -/
theorem trim {K : Frag} {A : AS} {H : Hp} {d : D} {v : V} {k : Bool} (h : RepW K A H d v) (e : truthy d = .ok k) : TruV K v H k := by
  cases d with
  | non =>
    simp only [truthy, Res.ok.injEq] at e
    have h' : v = .non := h
    subst h' e
    rfl
  | bl b =>
    simp only [truthy, Res.ok.injEq] at e
    have h' : v = .bl b := h
    subst h' e
    rfl
  | int i =>
    simp only [truthy, Res.ok.injEq] at e
    have h' : v = .int i := h
    subst h' e
    rfl
  | str s =>
    simp only [truthy] at e
    split at e
    · rename_i cc
      simp only [Res.ok.injEq] at e
      have h' : v = .str (Str.ofString s) := h
      subst h' e
      refine ⟨by rw [str_len]; exact cc, ?_⟩
      rw [str_len]
      cases hh : s.length with
      | zero => rfl
      | succ n =>
        have e1 : (((n + 1 : Nat) : Int) == 0) = false := beq_eq_false_iff_ne.mpr (by omega)
        have e2 : ((n + 1 : Nat) == 0) = false := rfl
        unfold bne
        rw [e1, e2]
    · cases e
  | tup xs =>
    simp only [truthy, Res.ok.injEq] at e
    obtain ⟨a, vs, rfl, q, r⟩ := (by simpa only [RepW, Rep] using h : ∃ a vs, v = .ref a ∧ SqT K H a vs ∧ RepL K A H xs vs)
    refine .inr (.inl ⟨vs, q, ?_⟩)
    subst e
    have hl := r.length
    cases xs <;> cases vs <;> first | rfl | simp at hl
  | lst xs =>
    simp only [truthy, Res.ok.injEq] at e
    obtain ⟨a, vs, rfl, q, r⟩ := h
    refine .inl ⟨vs, .inl q, ?_⟩
    subst e
    have hl := r.length
    cases xs <;> cases vs <;> first | rfl | simp at hl
  | dic _ => simp [truthy] at e
  | ins _ _ => simp [truthy] at e
  | drw _ => simp [truthy] at e
theorem no_truthy : ∀ d, (truthy d).isP = true := fun d => by
  cases d <;> simp only [truthy] <;> first | (split <;> rfl) | rfl
/-- any expression as a test -/
theorem t_tst (ha : PE X a (tW X.K W ow ma)) (he : ∀ whole, isTrue a X.env whole = (do let v ← whole; standAt a.pos; holding [v] (PySem.truthy v))) : PT X a (tT X.K W ow (tst ma)) :=
  PT.of (pt_truth ha he) fun σ H Q ⟨A, H0, O, en, R, q⟩ => ⟨A, H0, O, en, R, (Out.bind q).good fun d q1 v H1 s1 r1 => by
    cases e : Py.truthy d with
    | ok k =>
      rw [e] at q1
      exact ⟨k, trim r1 e, q1 H1 s1⟩
    | exc c fs =>
      have := no_truthy d
      rw [e] at this
      cases this
    | pick _ _ =>
      have := no_truthy d
      rw [e] at this
      cases this
    | stuck =>
      rw [e] at q1
      exact q1.elim⟩
/-- what gives a truth, as a test -/
def Bl (m : EM) : Prop := ∀ e d, Res.leaf d (m e) → ∃ k, d = .bl k
theorem Bl.bin {f : D → D → Res D} (hf : NoEx2 f) (h : ∀ x y d, f x y = .ok d → ∃ k, d = .bl k) {ma mb : EM} : Bl (bin f ma mb) := fun e d q => by
  obtain ⟨d1, _, q⟩ := leaf_bind q
  obtain ⟨d2, _, q⟩ := leaf_bind q
  exact h _ _ _ (leaf_isP (hf _ _ () ()) q)
theorem tst_of {m : EM} (hm : Bl m) {σ : L2.St} {H : Hp} {Q : Bool → Hp → Prop} (h : tT X.K W ow (tst m) σ H Q) : tE X.K W ow m σ H fun x H' => ∃ k, x = .bl k ∧ Q k H' := by
  obtain ⟨A, H0, O, en, R, q⟩ := h
  refine ⟨A, H0, O, en, R, (Out.bind q).imp (fun d e q1 v H1 s1 r1 => ?_) fun _ _ x => x⟩
  obtain ⟨k, rfl⟩ := hm _ _ e
  exact ⟨k, bl_of r1, q1 H1 s1⟩
/-- a comparison as a test -/
theorem t_cmp {op : CmpOp} {f : D → D → Res D} (ho : OpR X (compareOp op) (r2 X.K f)) (hf : NoEx2 f) (hb2 : ∀ x y d, f x y = .ok d → ∃ k, d = .bl k) (ha : PE X a (tW X.K W ow ma)) (hb : PE X b (tW X.K W ow mb)) (hm : behindInMarks op b = false) :
    PT X (.Compare a [op] [b] pos) (tT X.K W ow (tst (bin f ma mb))) :=
  PT.of (pt_cmpR ho ha hb hm) fun _ _ _ h => two_of hf (tst_of (Bl.bin hf hb2) h)
theorem b_lt : ∀ x y d, olt x y = .ok d → ∃ k, d = .bl k := fun x y d h => by
  cases x <;> cases y <;> simp only [olt, Res.ok.injEq, reduceCtorEq] at h
  exact ⟨_, h.symm⟩
theorem b_le : ∀ x y d, ole x y = .ok d → ∃ k, d = .bl k := fun x y d h => by
  cases x <;> cases y <;> simp only [ole, Res.ok.injEq, reduceCtorEq] at h
  exact ⟨_, h.symm⟩
theorem b_gt : ∀ x y d, ogt x y = .ok d → ∃ k, d = .bl k := fun x y d h => by
  cases x <;> cases y <;> simp only [ogt, Res.ok.injEq, reduceCtorEq] at h
  exact ⟨_, h.symm⟩
theorem b_eq : ∀ x y d, oeq x y = .ok d → ∃ k, d = .bl k := fun x y d h => by
  unfold oeq at h
  split at h <;> simp only [Res.ok.injEq, reduceCtorEq] at h
  exact ⟨_, h.symm⟩
theorem b_ne : ∀ x y d, Py.one x y = .ok d → ∃ k, d = .bl k := fun x y d h => by
  unfold Py.one at h
  split at h <;> simp only [Res.ok.injEq, reduceCtorEq] at h
  exact ⟨_, h.symm⟩
theorem b_in : ∀ x y d, oin x y = .ok d → ∃ k, d = .bl k := fun x y d h => by
  cases y <;> simp only [oin, reduceCtorEq] at h <;> split at h <;> simp only [Res.ok.injEq, reduceCtorEq] at h <;> exact ⟨_, h.symm⟩
theorem b_notin : ∀ x y d, onotin x y = .ok d → ∃ k, d = .bl k := fun x y d h => by
  cases y <;> simp only [onotin, reduceCtorEq] at h <;> split at h <;> simp only [Res.ok.injEq, reduceCtorEq] at h <;> exact ⟨_, h.symm⟩
theorem t_and1 {t : TM} (ha : PT X a (tT X.K W ow t)) : PW X (.BoolOp .And [a] pos) (tT X.K W ow t) := pw_and1 ha
theorem t_or1 {t : TM} (ha : PT X a (tT X.K W ow t)) : PW X (.BoolOp .Or [a] pos) (tT X.K W ow t) := pw_or1 ha
theorem t_and {t u : TM} {rest : List Expr} (ha : PT X a (tT X.K W ow t)) (hb : PW X (.BoolOp .And (b :: rest) pos) (tT X.K W ow u)) : PW X (.BoolOp .And (a :: b :: rest) pos) (tT X.K W ow (andT t u)) :=
  PW.of (pw_and ha hb) fun σ H Q ⟨A, H0, O, en, R, q⟩ => ⟨A, H0, O, en, R, (Out.bind q).good fun k q1 H1 s1 => by
    cases k with
    | true =>
      rw [if_pos rfl] at q1 ⊢
      exact ⟨A, H0, O, en, R.to s1, (q1.to s1).good fun d2 q2 H2 s2 => q2 H2 (s1.trans s2)⟩
    | false =>
      rw [if_neg (by decide)] at q1 ⊢
      exact q1 H1 s1⟩
theorem t_or {t u : TM} {rest : List Expr} (ha : PT X a (tT X.K W ow t)) (hb : PW X (.BoolOp .Or (b :: rest) pos) (tT X.K W ow u)) : PW X (.BoolOp .Or (a :: b :: rest) pos) (tT X.K W ow (orT t u)) :=
  PW.of (pw_or ha hb) fun σ H Q ⟨A, H0, O, en, R, q⟩ => ⟨A, H0, O, en, R, (Out.bind q).good fun k q1 H1 s1 => by
    cases k with
    | false =>
      rw [if_neg (by decide)] at q1 ⊢
      exact ⟨A, H0, O, en, R.to s1, (q1.to s1).good fun d2 q2 H2 s2 => q2 H2 (s1.trans s2)⟩
    | true =>
      rw [if_pos rfl] at q1 ⊢
      exact q1 H1 s1⟩
theorem t_not {t : TM} (ha : PT X a (tT X.K W ow t)) : PT X (.UnaryOp .Not a pos) (tT X.K W ow (notT t)) :=
  PT.of (pt_not ha) fun σ H Q ⟨A, H0, O, en, R, q⟩ => ⟨A, H0, O, en, R, (Out.bind q).good fun k q1 H1 s1 => q1 H1 s1⟩
/-! ### is None, is True -/
theorem isN_v {K : Frag} {A : AS} {H : Hp} {d : D} {v : V} (h : RepW K A H d v) : decide (v = .non) = isNon d := by
  cases d with
  | non =>
    have h' : v = .non := h
    subst h'
    rfl
  | bl b =>
    have h' : v = .bl b := h
    subst h'
    rfl
  | int b =>
    have h' : v = .int b := h
    subst h'
    rfl
  | str b =>
    have h' : v = .str (Str.ofString b) := h
    subst h'
    rfl
  | tup xs =>
    obtain ⟨a, vs, rfl, q, r⟩ := (by simpa only [RepW, Rep] using h : ∃ a vs, v = .ref a ∧ SqT K H a vs ∧ RepL K A H xs vs)
    rfl
  | lst xs =>
    obtain ⟨a, vs, rfl, q, r⟩ := h
    rfl
  | dic _ _ =>
    obtain ⟨a, rfl, _⟩ := h
    rfl
  | ins _ _ =>
    obtain ⟨a, dx, fvs, rfl, _⟩ := h
    rfl
  | drw q =>
    cases q with
    | inl k =>
      obtain ⟨a, a0, xs, rfl, _⟩ := (by simpa only [RepW, Rep] using h : ∃ a a0 xs, v = .ref a ∧ ¬ A a ∧ H a = some (poolO k a a0) ∧ ¬ A a0 ∧ Rd H a0 (.lst ((xs : List Int).map V.int)))
      rfl
    | inr q =>
      obtain ⟨rfl, _⟩ := (by simpa only [RepW, Rep] using h : v = .ref q.1 ∧ ¬ A q.1 ∧ Rd H q.1 (.lst (q.2.map V.int)))
      rfl
theorem Bl.un {f : D → Res D} (hf : NoEx1 f) (h : ∀ x d, f x = .ok d → ∃ k, d = .bl k) {ma : EM} : Bl (un f ma) := fun e d q => by
  obtain ⟨d1, _, q⟩ := leaf_bind q
  exact h _ _ (leaf_isP (hf _ () ()) q)
theorem b_isN : ∀ x d, oisN x = .ok d → ∃ k, d = .bl k := fun x d h => ⟨_, (Res.ok.inj h).symm⟩
theorem t_isN {j pos'} (ha : PE X a (tW X.K W ow ma)) : PT X (.Compare a [.Is] [.Constant .none j pos'] pos) (tT X.K W ow (tst (un oisN ma))) :=
  PT.of (pt_cmp (pc_isN ha)) fun σ H Q h => by
    obtain ⟨A, H0, O, en, R, q⟩ := tst_of (Bl.un (fun _ _ _ => rfl) b_isN) h
    refine ⟨A, H0, O, en, R, (Out.bind q).good fun d q1 v H1 s1 r1 => ?_⟩
    dsimp only
    rw [isN_v r1]
    exact q1 _ _ s1 rep_bl
end
end Py
/-! Displays, subscripts, attributes, calls of built-ins. -/
namespace Py
variable [WI]
open PySem L2 PySem.Spec PyProof.Rows
/-- values and data, one by one -/
theorem paired_rep {K : Frag} {A : AS} {H : Hp} : ∀ {vs : List V} {ds : List D}, Paired (fun v d => Rep K A H d v) vs ds → RepL K A H ds vs
  | _, _, .nil => by simp [RepL]
  | _, _, .cons r t => by
    simp only [RepL]
    exact ⟨_, _, rfl, r, paired_rep t⟩
section
variable {X : Cx} [CW X] {W : WX} {A : AS} {H0 : Base} {ow : Ow} {a b c e : Expr} {es : List Expr} {m ma mb mc : EM} {am : AM} {pos : Pos}
/-! ### argument lists -/
abbrev aE (K : Frag) := tA (Rep K) K
theorem xa_nil {R : RR} : PA X [] (tA R X.K W ow argN) := PA.of pa_nil fun σ H Q ⟨A, H0, O, en, R', q⟩ => q [] H (Same.refl H) .nil
theorem xa_cons (ha : PE X e (tE X.K W ow m)) (hr : PA X es (aE X.K W ow am)) (hs : starEach (e :: es) X.env = (false, eval e X.env) :: starEach es X.env := by rfl) : PA X (e :: es) (aE X.K W ow (argC m am)) :=
  PA.of (pa_cons ha hr hs) fun σ H Q ⟨A, H0, O, en, R, q⟩ => ⟨A, H0, O, en, R, (Out.bind q).good fun d q1 v H1 s1 r1 => ⟨A, H0, O, en, R.to s1, ((Out.bind q1).to s1).good fun ds q2 vs H2 s2 r2 =>
    q2 (v :: vs) H2 (s1.trans s2) (.cons (Rep.move (Mv.same s2) _ _ r1) r2)⟩⟩
/-! ### displays -/
theorem x_tup {x1} (h : PA X es (aE X.K W ow am)) : PE X (.Tuple es x1 pos) (tE X.K W ow (tupE am)) :=
  PE.of (pe_tup h) fun σ H Q ⟨A, H0, O, en, R, q⟩ => ⟨A, H0, O, en, R, (Out.bind q).good fun ds q1 vs H1 s1 r1 => by
    have rl := paired_rep r1
    unfold chk at q1
    split at q1
    · rename_i z
      exact ⟨by rw [← rl.length]; exact z, fun p hp => q1 _ _ (s1.trans (new_same hp)) (new_tup rl hp)⟩
    · exact q1.elim⟩
theorem f_lst (h : PA X es (aE X.K W ow am)) : PE X (.List es pos) (tF X.K W ow (lstE am)) :=
  PE.of (pe_lst h) fun σ H Q ⟨A, H0, O, en, R, q⟩ => ⟨A, H0, O, en, R, (Out.bind q).good fun ds q1 vs H1 s1 r1 => by
    have rl := paired_rep r1
    unfold chk at q1
    split at q1
    · rename_i z
      refine ⟨by rw [← rl.length]; exact z, fun p hp => q1 p _ (s1.free hp) (s1.trans (new_same hp)) ⟨vs, upd_same, ?_⟩⟩
      refine RepL.move ⟨fun b hb => ?_, fun b o e _ => new_same hp b o e⟩ _ _ rl
      rcases hb with hb | rfl
      · exact .inl hb
      · exact .inr hp
    · exact q1.elim⟩
/-! ### subscripts -/
def r2n (K : Frag) (f : D → D → Res D) : R2 := fun x y H Q => ∃ A d1 d2 d, isDic d1 = false ∧ RepW K A H d1 x ∧ RepW K A H d2 y ∧ (∀ a, A a → H a ≠ none) ∧ f d1 d2 = .ok d ∧ ∀ v H', Same H H' → Rep K A H' d v → Q v H'
theorem y_idx0 : IxR X (r2n X.K oidx) := by
  intro value slice pins s σ H x y v u Q I rx ry ⟨A, d1, d2, d, hnd, h1, h2, ha, e, k⟩ hs
  cases d1 with
  | lst xs =>
    cases d2 <;> simp only [oidx, reduceCtorEq] at e
    rename_i i
    obtain ⟨a, vs, rfl, q, r⟩ := h1
    unfold opt at e
    split at e
    · rename_i d' he
      simp only [Res.ok.injEq] at e
      subst e
      unfold atI at he
      cases hj : ixN xs.length i with
      | none => rw [hj] at he; cases he
      | some j =>
        rw [hj] at he
        obtain ⟨w, hw, rw'⟩ := r.get (show xs[j]? = some d' from he)
        refine ix_list value slice pins s σ H _ _ v u Q I rx ry ⟨a, vs, i, w, rfl, h2, .inl q, ?_, k w H (Same.refl H) rw'⟩ hs
        unfold atI
        rw [← r.length, hj]
        exact hw
    · cases e
  | tup xs =>
    cases d2 <;> simp only [oidx, reduceCtorEq] at e
    rename_i i
    obtain ⟨a, vs, rfl, q, r⟩ := (by simpa only [RepW, Rep] using h1 : ∃ a vs, x = .ref a ∧ SqT X.K H a vs ∧ RepL X.K A H xs vs)
    unfold opt at e
    split at e
    · rename_i d' he
      simp only [Res.ok.injEq] at e
      subst e
      unfold atI at he
      cases hj : ixN xs.length i with
      | none => rw [hj] at he; cases he
      | some j =>
        rw [hj] at he
        obtain ⟨w, hw, rw'⟩ := r.get (show xs[j]? = some d' from he)
        refine ix_tup value slice pins s σ H _ _ v u Q I rx ry ⟨a, vs, i, w, rfl, h2, q, ?_, k w H (Same.refl H) rw'⟩ hs
        unfold atI
        rw [← r.length, hj]
        exact hw
    · cases e
  | str z =>
    cases d2 <;> simp only [oidx, reduceCtorEq] at e
    rename_i i
    split at e
    · rename_i hz
      have h1' : x = .str (Str.ofString z) := h1
      have h2' : y = .int i := h2
      subst h1' h2'
      unfold opt at e
      split at e
      · rename_i d' he
        simp only [Res.ok.injEq] at e
        subst e
        unfold atI at he
        cases hj : ixN z.toList.length i with
        | none => rw [hj] at he; cases he
        | some j =>
          rw [hj] at he
          have he1 : Option.map (fun c => D.str (String.ofList [c])) (z.toList[j]?) = some d' := he
          cases hc : z.toList[j]? with
          | none => rw [hc] at he1; cases he1
          | some ch =>
            rw [hc] at he1
            have he2 : D.str (String.ofList [ch]) = d' := Option.some.inj he1
            subst he2
            have e1 : (Str.ofString z).cps.toList = z.toList.map Char.toNat := by rw [Str.ofString_eq_toList]
            refine ix_str value slice pins s σ H _ _ v u Q I rx ry ⟨_, i, ch.toNat, rfl, rfl, by rw [str_len]; exact hz, ?_, ?_⟩ hs
            · unfold atI
              rw [e1, List.length_map, hj]
              show (List.map Char.toNat z.toList)[j]? = _
              rw [List.getElem?_map, hc]
              rfl
            · have e2 : Str.ofString (String.ofList [ch]) = ⟨#[ch.toNat]⟩ := by
                rw [Str.ofString_eq_toList, String.toList_ofList]
                rfl
              rw [← e2]
              exact k _ H (Same.refl H) rfl
      · cases e
    · cases e
  | dic t kvs => simp [isDic] at hnd
  | _ => simp [oidx] at e
theorem y_idx (hu : X.A.units + 16 < cLine) : IxR X (r2 X.K oidx) := by
  intro value slice pins s σ H x y v u Q I rx ry ⟨A, d1, d2, d, h1, h2, ha, e, k⟩ hs
  cases hnd : isDic d1 with
  | false => exact y_idx0 value slice pins s σ H x y v u Q I rx ry ⟨A, d1, d2, d, hnd, h1, h2, ha, e, k⟩ hs
  | true =>
    cases d1 <;> simp only [isDic, reduceCtorEq] at hnd
    rename_i t kvs
    simp only [oidx] at e
    split at e
    · rename_i hk
      obtain ⟨a, rfl, g⟩ := h1
      cases (show v = Value.ref a from rx)
      have h2' : Rep X.K A H d2 y := by
        cases d2 <;> first | exact h2 | (cases t <;> simp [keyOk] at hk)
      unfold opt at e
      split at e
      · rename_i d' hf
        simp only [Res.ok.injEq] at e
        subst e
        exact tail_any (dic_type I g) slot_dict_getitem.lookup (dic_get hu I g hk h2' ry hf fun v w' s' I' r' rv => ⟨v, H, I', r', k v H (Same.refl H) rv⟩) hs
      · cases e
    · cases e
theorem n_idx : NoEx2 oidx := fun x y c fs => by
  have ho : ∀ o, (opt o).isP = true := fun o => by cases o <;> rfl
  cases x <;> cases y <;> simp only [oidx] <;> first | rfl | exact ho _ | (split <;> first | exact ho _ | rfl)
theorem x_idx (hi : IxR X (r2 X.K oidx)) (ha : PE X a (tW X.K W ow ma)) (hb : PE X b (tW X.K W ow mb)) (hs : PlainIx b := by exact fun _ _ => rfl) : PE X (.Subscript a b pos) (tE X.K W ow (bin oidx ma mb)) :=
  PE.of (pe_ix hi ha hb hs) fun _ _ _ h => two_of n_idx h
/-! ### slices -/
theorem RepL.cut {K : Frag} {A : AS} {H : Hp} {ds : List D} {vs : List V} (h : RepL K A H ds vs) (lo hi : Option Int) : RepL K A H (Py.cut ds lo hi) (cutV vs lo hi) := by
  unfold Py.cut cutV
  rw [h.length]
  exact (h.drop _).take _
def rS (K : Frag) : V → Option Int → Option Int → Hp → VK → Prop := fun x lo hi H Q => ∃ A d1 d, RepW K A H d1 x ∧ (∀ a, A a → H a ≠ none) ∧ oslc d1 lo hi = .ok d ∧ ∀ v H', Same H H' → Rep K A H' d v → Q v H'
theorem cut_all {α : Type} {xs : List α} {lo hi : Option Int} (h : HT.sIx xs.length 0 lo = 0 ∧ HT.sIx xs.length xs.length hi = xs.length) : Py.cut xs lo hi = xs := by
  unfold Py.cut
  rw [h.1, h.2]
  simp
theorem y_slc : SlR X (rS X.K) := by
  intro pins s σ H x v vl vu lo hi sl Q I rx hs pl' pu h
  obtain ⟨A, d1, d, h1, ha, e, k⟩ := h
  cases d1 with
  | lst xs =>
    simp only [oslc, Res.ok.injEq] at e
    subst e
    obtain ⟨a, vs, rfl, q, r⟩ := h1
    exact sl_list pins s σ H _ v vl vu lo hi sl Q I rx hs pl' pu ⟨a, vs, rfl, .inl q, fun p hp => k _ _ (new_same hp) (new_lst ha (r.cut lo hi) hp)⟩
  | tup xs =>
    simp only [oslc, Res.ok.injEq] at e
    subst e
    obtain ⟨a, vs, rfl, q, r⟩ := (by simpa only [RepW, Rep] using h1 : ∃ a vs, x = .ref a ∧ SqT X.K H a vs ∧ RepL X.K A H xs vs)
    refine sl_tupA pins s σ H _ v vl vu lo hi sl Q I rx hs pl' pu ⟨a, vs, rfl, q, fun z => ?_, fun _ p hp => k _ _ (new_same hp) (new_tup (r.cut lo hi) hp)⟩
    rw [← r.length] at z
    rw [cut_all z] at k
    exact k _ H (Same.refl H) h1
  | str z =>
    simp only [oslc] at e
    split at e
    · rename_i hz
      simp only [Res.ok.injEq] at e
      subst e
      have h1' : x = .str (Str.ofString z) := h1
      subst h1'
      refine sl_str pins s σ H _ v vl vu lo hi sl Q I rx hs pl' pu ⟨_, rfl, by rw [str_len]; exact hz, ?_⟩
      have e1 : cutS (Str.ofString z) lo hi = Str.ofString (String.ofList (Py.cut z.toList lo hi)) := by
        rw [Str.ofString_eq_toList (String.ofList _), String.toList_ofList]
        unfold cutS Py.cut
        rw [str_len]
        rw [Str.ofString_eq_toList]
        simp [List.map_take, List.map_drop, String.length_toList]
      rw [e1]
      exact k _ H (Same.refl H) rfl
    · cases e
  | _ => simp [oslc] at e
end
end Py
/-! Slices as expressions, attributes, calls of built-ins, isinstance. -/
namespace Py
variable [WI]
open PySem L2
/-! ### own classes: what isinstance and attributes ask -/
structure KitC (K : Frag) (cs : List String) (c : String) : Prop where
  cl : Cls K (ca K c)
  ha : PySem.W.findIn K (.ref (ca K c)) "__class__" = some (some (.builtin "object.__class__"))
  hn : PySem.W.specialIn K (.builtin "object.__class__") "__get__" = some (some (.builtin "getset_descriptor.__get__"))
  ht : PySem.W.takesIn K (.builtin "object.__class__") = some true
  hm : PySem.W.mroIn K (ca K c) (.type "object") = some true
  oo : ∀ d ∈ cs, PySem.W.kitOne K (.ref (ca K c)) (.ref (ca K d)) = some (decide (c = d))
  ob : ∀ T ∈ tyNames, PySem.W.kitOne K (.ref (ca K c)) (.type T) = some false
  bo : ∀ T ∈ tyNames, PySem.W.kitOne K (.type T) (.ref (ca K c)) = some false
def KitF (K : Frag) (cs : List String) : Prop := ∀ c ∈ cs, KitC K cs c
theorem kit_of_b {K : Frag} {cs : List String} (h : kitB K cs = true) : KitF K cs := fun c hc => by
  have h1 := List.all_eq_true.mp h c hc
  simp only [Bool.and_eq_true, decide_eq_true_eq, List.all_eq_true] at h1
  obtain ⟨a1, a2, a3, a4, a5, a6, a7⟩ := h1
  exact ⟨He.cls_ok a1, a2, a3, a4, a5, a6, fun T hT => (a7 T hT).1, fun T hT => (a7 T hT).2⟩
def tyN : Ty → String
  | .non => "NoneType" | .bl => "bool" | .int => "int" | .str => "str" | .tup => "tuple" | .lst => "list" | .dic => "dict" | .cls c => c
def tyV (K : Frag) : Ty → V
  | .cls c => .ref (ca K c)
  | t => .ty (tyN t)
def tyU (K : Frag) : Ty → Value
  | .cls c => .ref (ca K c)
  | t => .type (tyN t)
theorem ty_cls (K : Frag) (t : Ty) : ClsV (tyV K t) (tyU K t) := by
  cases t <;> first | exact .ty _ | exact .own _
theorem isI_ty (t : Ty) (d : D) (h : t ≠ .non) : isI t d = (decide (t = tyOf d) || (decide (tyOf d = .bl) && decide (t = .int))) := by
  cases d <;> cases t <;> simp [isI, tyOf] at h ⊢
theorem kit_one {K : Frag} {cs : List String} (F : KitF K cs) {t : Ty} {d : D} (h1 : inCs cs t = true) (h2 : inCs cs (tyOf d) = true) (hn : t ≠ .non) : PySem.W.kitOne K (tyU K (tyOf d)) (tyU K t) = some (isI t d) := by
  rw [isI_ty t d hn]
  cases ht : t with
  | cls c =>
    subst ht
    have hc : c ∈ cs := by simpa [inCs] using h1
    cases hd : tyOf d with
    | cls c' =>
      rw [hd] at h2
      have hc' : c' ∈ cs := by simpa [inCs] using h2
      have := (F c' hc').oo c hc
      show PySem.W.kitOne K (.ref (ca K c')) (.ref (ca K c)) = _
      rw [this]
      by_cases q : c = c'
      · subst q
        simp
      · have q2 : ¬ c' = c := fun z => q z.symm
        simp [q, q2]
    | _ =>
      show PySem.W.kitOne K (.type _) (.ref (ca K c)) = _
      rw [(F c hc).bo _ (by decide)]
      simp
  | non => exact absurd ht hn
  | _ =>
    cases hd : tyOf d with
    | cls c' =>
      rw [hd] at h2
      have hc' : c' ∈ cs := by simpa [inCs] using h2
      show PySem.W.kitOne K (.ref (ca K c')) (.type _) = _
      rw [(F c' hc').ob _ (by decide)]
      simp
    | _ => exact L2.kit_ty (by rw [← show tyN _ = _ from rfl]; decide +kernel)
theorem tyx_of {K : Frag} {cs : List String} (F : KitF K cs) {A : AS} {H : Hp} {d : D} {v : V} (h : RepW K A H d v) (h2 : inCs cs (tyOf d) = true) : TyX K H v (tyU K (tyOf d)) := by
  cases d with
  | non =>
    have h' : v = .non := h
    subst h'
    exact .base .non
  | bl b =>
    have h' : v = .bl b := h
    subst h'
    exact .base (.bl _)
  | int b =>
    have h' : v = .int b := h
    subst h'
    exact .base (.int _)
  | str b =>
    have h' : v = .str (Str.ofString b) := h
    subst h'
    exact .base (.str _)
  | tup xs =>
    obtain ⟨a, vs, rfl, q, r⟩ := (by simpa only [RepW, Rep] using h : ∃ a vs, v = .ref a ∧ SqT K H a vs ∧ RepL K A H xs vs)
    rcases q with (q | ⟨o, q⟩) | ⟨o, its, n, q1, q2, _⟩
    · exact .base (.tup q)
    · exact .fTuple q
    · exact .kTuple q1 q2
  | lst xs =>
    obtain ⟨a, vs, rfl, q, r⟩ := h
    rcases q with q | ⟨o, q⟩
    · exact .base (.lst q)
    · exact .base (.frz q)
  | dic _ _ => simp [inCs, tyOf] at h2
  | drw _ => simp [inCs, tyOf] at h2
  | ins c fs =>
    obtain ⟨a, dx, fvs, rfl, q, _⟩ := h
    have hc : c ∈ cs := by simpa [inCs, tyOf] using h2
    have k := F c hc
    exact .base (.ins q k.cl k.ha k.hn k.ht k.hm)
/-- isinstance(x, (t1, t2, ..)) -/
theorem n_isi {cs : List String} {ts : List Ty} : NoEx1 (oisi cs ts) := fun x c fs => by
  unfold oisi
  split <;> rfl
theorem isi_ok {cs : List String} {ts : List Ty} {d r : D} (h : oisi cs ts d = .ok r) : inCs cs (tyOf d) = true ∧ (∀ t ∈ ts, inCs cs t = true ∧ t ≠ .non) ∧ r = .bl (ts.any fun t => isI t d) := by
  unfold oisi at h
  split at h
  · rename_i c
    simp only [Bool.and_eq_true, List.all_eq_true, decide_eq_true_eq] at c
    simp only [Res.ok.injEq] at h
    exact ⟨c.1, c.2, h.symm⟩
  · cases h
theorem kit_any {K : Frag} {cs : List String} (F : KitF K cs) {d : D} (h2 : inCs cs (tyOf d) = true) : ∀ {ts : List Ty}, (∀ t ∈ ts, inCs cs t = true ∧ t ≠ .non) → PySem.W.kitAny K (tyU K (tyOf d)) (ts.map (tyU K)) = some (ts.any fun t => isI t d)
  | [], _ => rfl
  | t :: ts, h => by
    obtain ⟨a1, a2⟩ := h t (by simp)
    simp only [List.map_cons, List.any_cons]
    refine L2.kitAny_cons (kit_one F a1 h2 a2) (fun e => ?_) fun e => by rw [e]; rfl
    rw [e, Bool.false_or]
    exact kit_any F h2 fun t' h' => h t' (by simp [h'])
theorem RepL.reverse {K : Frag} {A : AS} {H : Hp} : ∀ {ds : List D} {vs : List V}, RepL K A H ds vs → RepL K A H ds.reverse vs.reverse
  | [], vs, h => by
    simp only [RepL] at h
    subst h
    simp [RepL]
  | d :: ds, vs, h => by
    simp only [RepL] at h
    obtain ⟨v, r, rfl, h1, h2⟩ := h
    simp only [List.reverse_cons]
    exact (RepL.reverse h2).append (RepL.one h1)
section
variable {X : Cx} [CW X] {W : WX} {A : AS} {H0 : Base} {ow : Ow} {a b c e : Expr} {es : List Expr} {m ma mb mc : EM} {am : AM} {pos : Pos}
theorem x_isi1 {cs : List String} {t : Ty} {x : Str} {p : Pos} (hx : x = "isinstance") (F : KitF X.K cs) (hg : Gl X x) (hm : X.mg x = none) (ha : PE X a (tW X.K W ow ma)) (hb : PE X b (tC (tyV X.K t)))
    (hs : starEach [a, b] X.env = (false, eval a X.env) :: starEach [b] X.env := by rfl) (hs2 : starEach [b] X.env = [(false, eval b X.env)] := by rfl) (hpl : (backTo pos (starEach [b] X.env)).any (·.1) = false := by rfl) :
    PE X (.Call (.Name x p) [a, b] [] pos) (tE X.K W ow (un (oisi cs [t]) ma)) := by
  subst hx
  refine PE.of (pe_callB call_isi hg hm (by decide +kernel) (pa_cons ha (pa_cons hb pa_nil hs2) hs) (by decide) (by decide) hs hpl) fun σ H Q ⟨A, H0, O, en, R, q⟩ => ⟨A, H0, O, en, R, (Out.bind q).good fun d q1 v H1 s1 r1 => ?_⟩
  cases e : oisi cs [t] d with
  | exc _ _ =>
    rw [e] at q1
    exact absurd (e ▸ n_isi (cs := cs) d () () : (Res.exc _ _ : Res D).isP = true) (by simp [Res.isP])
  | pick _ _ =>
    exact absurd (e ▸ n_isi (cs := cs) d () () : (Res.pick _ _ : Res D).isP = true) (by simp [Res.isP])
  | stuck =>
    rw [e] at q1
    exact q1.elim
  | ok r =>
    rw [e] at q1
    obtain ⟨h1, h2, rfl⟩ := isi_ok e
    obtain ⟨h3, h4⟩ := h2 t (by simp)
    refine ⟨v, tyV X.K t, tyU X.K (tyOf d), tyU X.K t, isI t d, rfl, ty_cls _ _, tyx_of F r1 h1, kit_one F h3 h1 h4, ?_⟩
    have q2 := q1 (.bl ([t].any fun t => isI t d)) H1 s1 rep_bl
    simpa using q2
/-- a tuple of classes as written -/
inductive TyL (X : Cx) : List Expr → List Ty → TA → Prop
  | nil : TyL X [] [] tNil
  | cons {e : Expr} {es : List Expr} {t : Ty} {ts : List Ty} {r : TA} (h : PE X e (tC (tyV X.K t))) (k : TyL X es ts r) (hs : starEach (e :: es) X.env = (false, eval e X.env) :: starEach es X.env) : TyL X (e :: es) (t :: ts) (tCons (tC (tyV X.K t)) r)
theorem TyL.pa {es : List Expr} {ts : List Ty} {r : TA} (h : TyL X es ts r) : PA X es r := by
  induction h with
  | nil => exact pa_nil
  | cons h _ hs ih => exact pa_cons h ih hs
theorem TyL.run {es : List Expr} {ts : List Ty} {r : TA} (h : TyL X es ts r) : ∀ {σ : L2.St} {H : Hp} {Q : List V → Hp → Prop}, Q (ts.map (tyV X.K)) H → r σ H Q := by
  induction h with
  | nil => exact fun q => q
  | cons h _ hs ih => exact fun q => ih (Q := fun xs H2 => _) q
theorem ty_all (K : Frag) : ∀ ts : List Ty, Paired ClsV (ts.map (tyV K)) (ts.map (tyU K))
  | [] => .nil
  | t :: ts => .cons (ty_cls K t) (ty_all K ts)
theorem x_isiT {cs : List String} {ts : List Ty} {r : TA} {x : Str} {p tp : Pos} {tk} (hx : x = "isinstance") (F : KitF X.K cs) (hg : Gl X x) (hm : X.mg x = none) (ha : PE X a (tW X.K W ow ma)) (hb : TyL X es ts r) (hz : ts.length ≤ 20)
    (hs : starEach [a, .Tuple es tk tp] X.env = (false, eval a X.env) :: starEach [.Tuple es tk tp] X.env := by rfl) (hs2 : starEach [.Tuple es tk tp] X.env = [(false, eval (.Tuple es tk tp) X.env)] := by rfl) (hpl : (backTo pos (starEach [.Tuple es tk tp] X.env)).any (·.1) = false := by rfl) :
    PE X (.Call (.Name x p) [a, .Tuple es tk tp] [] pos) (tE X.K W ow (un (oisi cs ts) ma)) := by
  subst hx
  refine PE.of (pe_callB call_isiT hg hm (by decide +kernel) (pa_cons ha (pa_cons (pe_tup hb.pa) pa_nil hs2) hs) (by decide) (by decide) hs hpl) fun σ H Q ⟨A, H0, O, en, R, q⟩ => ⟨A, H0, O, en, R, (Out.bind q).good fun d q1 v H1 s1 r1 => ?_⟩
  cases e : oisi cs ts d with
  | exc _ _ =>
    rw [e] at q1
    exact absurd (e ▸ n_isi (cs := cs) d () () : (Res.exc _ _ : Res D).isP = true) (by simp [Res.isP])
  | pick _ _ =>
    exact absurd (e ▸ n_isi (cs := cs) d () () : (Res.pick _ _ : Res D).isP = true) (by simp [Res.isP])
  | stuck =>
    rw [e] at q1
    exact q1.elim
  | ok r =>
    rw [e] at q1
    obtain ⟨h1, h2, rfl⟩ := isi_ok e
    refine hb.run ⟨by rw [List.length_map]; exact Nat.le_trans hz (by decide), fun p hp => ?_⟩
    exact ⟨v, p, ts.map (tyV X.K), tyU X.K (tyOf d), ts.map (tyU X.K), _, rfl, upd_same, ty_all _ _, tyx_of F (r1.move (new_same hp)) h1, kit_any F h1 h2, q1 _ _ (s1.trans (new_same hp)) rep_bl⟩
/-! ### attributes -/
/-- a field that holds no inner object -/
theorem x_attr {cs : List String} {f : String} (F : ∀ c ∈ cs, Cls X.K (ca X.K c) ∧ NoAttr X.K (ca X.K c) (Str.ofString f)) (ha : PE X a (tW X.K W ow ma))
    (hb : attributeBase a (Str.ofString f) X.env (eval a X.env) = eval a X.env := by rfl) (hn : (cs.all fun c => !inn c f) = true := by decide) : PE X (.Attribute a (Str.ofString f) pos) (tE X.K W ow (un (oattr cs f) ma)) :=
  PE.of (pe_fld ha hb) fun σ H Q ⟨A, H0, O, en, R, q⟩ => ⟨A, H0, O, en, R, (Out.bind q).good fun d q1 v H1 s1 r1 => by
    cases d with
    | ins c fs =>
      simp only [oattr] at q1
      split at q1
      · rename_i hc
        obtain ⟨h1, h2⟩ := F c (by simpa using hc)
        have hni : inn c f = false := by simpa using List.all_eq_true.mp hn c (by simpa using hc)
        obtain ⟨p, dx, fvs, rfl, q2, r2⟩ := r1
        cases hl : fs.lookup f with
        | none =>
          rw [hl] at q1
          exact q1.elim
        | some d' =>
          rw [hl] at q1
          obtain ⟨v', e1, r'⟩ := r2.look hl
          rw [hni] at r'
          exact ⟨p, _, dx, fvs, v', rfl, q2, h1, h2, e1, q1 v' H1 s1 r'⟩
      · exact q1.elim
    | _ => exact q1.elim⟩
/-- any field, read -/
theorem x_attrW {cs : List String} {f : String} (F : ∀ c ∈ cs, Cls X.K (ca X.K c) ∧ NoAttr X.K (ca X.K c) (Str.ofString f)) (ha : PE X a (tW X.K W ow ma))
    (hb : attributeBase a (Str.ofString f) X.env (eval a X.env) = eval a X.env := by rfl) : PE X (.Attribute a (Str.ofString f) pos) (tW X.K W ow (un (oattr cs f) ma)) :=
  PE.of (pe_fld ha hb) fun σ H Q ⟨A, H0, O, en, R, q⟩ => ⟨A, H0, O, en, R, (Out.bind q).good fun d q1 v H1 s1 r1 => by
    cases d with
    | ins c fs =>
      simp only [oattr] at q1
      split at q1
      · rename_i hc
        obtain ⟨h1, h2⟩ := F c (by simpa using hc)
        obtain ⟨p, dx, fvs, rfl, q2, r2⟩ := r1
        cases hl : fs.lookup f with
        | none =>
          rw [hl] at q1
          exact q1.elim
        | some d' =>
          rw [hl] at q1
          obtain ⟨v', e1, r'⟩ := r2.look hl
          refine ⟨p, _, dx, fvs, v', rfl, q2, h1, h2, e1, q1 v' H1 s1 ?_⟩
          cases hi : inn c f with
          | true =>
            rw [hi] at r'
            exact RepW.ofU r'
          | false =>
            rw [hi] at r'
            exact RepW.of r'
      · exact q1.elim
    | _ => exact q1.elim⟩
/-! ### slices -/
/-- a part of a slice -/
def tO (K : Frag) (W : WX) (ow : Ow) (m : Option EM) : TO := fun σ H Q => ∃ A H0 O e, ER K A H0 ow O σ H e ∧
  Out (slc.bnd m e) (fun o => ∀ H', Same H H' → Q o H') (badE K W A O σ H)
theorem o_none : PO X none (tO X.K W ow none) := ⟨fun pins s σ H Q I ⟨A, H0, O, en, R, q⟩ => po_none.run pins s σ H Q I (q H (Same.refl H))⟩
theorem o_some (h : PE X e (tE X.K W ow m)) : PO X (some e) (tO X.K W ow (some m)) := ⟨fun pins s σ H Q I ⟨A, H0, O, en, R, q⟩ => (po_some h).run pins s σ H Q I ⟨A, H0, O, en, R, (Out.bind q).good fun d q1 v H1 s1 r1 => by
  cases d with
  | int i => exact ⟨i, r1, q1 H1 s1⟩
  | _ => exact q1.elim⟩⟩
theorem x_slc {lo hi : Option Expr} {ml mh : Option EM} {p2 : Pos} (ha : PE X a (tW X.K W ow ma)) (hl : PO X lo (tO X.K W ow ml)) (hh : PO X hi (tO X.K W ow mh)) : PE X (.Subscript a (.Slice lo hi none p2) pos) (tE X.K W ow (slc ma ml mh)) :=
  PE.of (pe_slice y_slc ha hl hh) fun σ H Q ⟨A, H0, O, en, R, q⟩ => ⟨A, H0, O, en, R, (Out.bind q).good fun d q1 v H1 s1 r1 => ⟨A, H0, O, en, R.to s1, ((Out.bind q1).to s1).good fun i q2 H2 s2 => ⟨A, H0, O, en, (R.to s1).to s2, ((Out.bind q2).to (s1.trans s2)).good fun j q3 H3 s3 => by
    cases e : oslc d i j with
    | ok z =>
      rw [e] at q3
      exact ⟨_, d, z, r1.move (s2.trans s3), (((R.to s1).to s2).to s3).there, e, fun v' H' s' r' => q3 v' H' (((s1.trans s2).trans s3).trans s') r'⟩
    | exc c fs =>
      exfalso
      cases d <;> simp only [oslc, reduceCtorEq] at e
      split at e <;> cases e
    | pick c fs =>
      exfalso
      cases d <;> simp only [oslc, reduceCtorEq] at e
      split at e <;> cases e
    | stuck =>
      rw [e] at q3
      exact q3.elim⟩⟩⟩
/-! ### built-in calls -/
def c1 (K : Frag) (f : D → Res D) : List V → Hp → VK → Prop := fun vs H Q => ∃ x, vs = [x] ∧ r1 K f x H Q
def c2 (K : Frag) (f : D → D → Res D) : List V → Hp → VK → Prop := fun vs H Q => ∃ x y, vs = [x, y] ∧ r2 K f x y H Q
theorem cimp {f : Value} {r r' : List V → Hp → VK → Prop} (h : CallR X f r) (k : ∀ x H Q, r' x H Q → r x H Q) : CallR X f r' := fun pins s σ H xs us Q I rx q => h pins s σ H xs us Q I rx (k xs H Q q)
theorem x_b1 {id : String} {x : Str} {p : Pos} {f : D → Res D} (hc : CallR X (.builtin id) (c1 X.K f)) (hf : NoEx1 f) (hg : Gl X x) (hm : X.mg x = none) (hv : bootBuiltins x = some (.builtin id)) (ha : PE X a (tW X.K W ow ma)) (hn : x ≠ "__name__" := by decide) (hdb : (x == ("__debug__" : Str)) = false := by decide)
    (hs : starEach [a] X.env = [(false, eval a X.env)] := by rfl) : PE X (.Call (.Name x p) [a] [] pos) (tE X.K W ow (un f ma)) :=
  PE.of (pe_callB hc hg hm hv (pa_cons ha pa_nil hs) hn hdb hs (by rfl)) fun σ H Q h => by
    obtain ⟨A, H0, O, en, R, q⟩ := one_of hf h
    exact ⟨A, H0, O, en, R, q.good fun d k v H' s r => ⟨v, rfl, k v H' s r⟩⟩
theorem x_t1 {id : String} {x : Str} {p : Pos} {f : D → Res D} (hc : CallR X (.type id) (c1 X.K f)) (hf : NoEx1 f) (hg : Gl X x) (hm : X.mg x = none) (hv : bootBuiltins x = some (.type id)) (ha : PE X a (tW X.K W ow ma)) (hn : x ≠ "__name__" := by decide) (hdb : (x == ("__debug__" : Str)) = false := by decide)
    (hs : starEach [a] X.env = [(false, eval a X.env)] := by rfl) : PE X (.Call (.Name x p) [a] [] pos) (tE X.K W ow (un f ma)) :=
  PE.of (pe_callTy hc hg hm hv (pa_cons ha pa_nil hs) hn hdb hs (by rfl)) fun σ H Q h => by
    obtain ⟨A, H0, O, en, R, q⟩ := one_of hf h
    exact ⟨A, H0, O, en, R, q.good fun d k v H' s r => ⟨v, rfl, k v H' s r⟩⟩
theorem x_b2 {id : String} {x : Str} {p : Pos} {f : D → D → Res D} (hc : CallR X (.builtin id) (c2 X.K f)) (hf : NoEx2 f) (hg : Gl X x) (hm : X.mg x = none) (hv : bootBuiltins x = some (.builtin id)) (ha : PE X a (tW X.K W ow ma)) (hb : PE X b (tW X.K W ow mb)) (hn : x ≠ "__name__" := by decide) (hdb : (x == ("__debug__" : Str)) = false := by decide)
    (hs : starEach [a, b] X.env = (false, eval a X.env) :: starEach [b] X.env := by rfl) (hs2 : starEach [b] X.env = [(false, eval b X.env)] := by rfl) (hpl : (backTo pos (starEach [b] X.env)).any (·.1) = false := by rfl) : PE X (.Call (.Name x p) [a, b] [] pos) (tE X.K W ow (bin f ma mb)) :=
  PE.of (pe_callB hc hg hm hv (pa_cons ha (pa_cons hb pa_nil hs2) hs) hn hdb hs hpl) fun σ H Q h => by
    obtain ⟨A, H0, O, en, R, q⟩ := two_of hf h
    refine ⟨A, H0, O, en, R, q.good fun d k v H' s r => ?_⟩
    obtain ⟨A2, H02, O2, en2, R2, q2⟩ := k v H' s r
    exact ⟨A2, H02, O2, en2, R2, q2.good fun d2 k2 v2 H2 s2 r2' => ⟨v, v2, rfl, k2 v2 H2 s2 r2'⟩⟩
theorem v_len0 : CallR X (.builtin "len") (fun vs H Q => ∃ x, vs = [x] ∧ ∃ A d1 d, isDic d1 = false ∧ RepW X.K A H d1 x ∧ blen d1 = .ok d ∧ ∀ v H', Same H H' → Rep X.K A H' d v → Q v H') := cimp call_len fun xs H Q ⟨x, e0, A, d1, d, hnd, h1, e, k⟩ => by
  subst e0
  cases d1 with
  | str s =>
    simp only [blen] at e
    split at e
    · rename_i hz
      simp only [Res.ok.injEq] at e
      subst e
      have h' : x = .str (Str.ofString s) := h1
      subst h'
      exact ⟨_, s.length, rfl, ⟨by rw [str_len]; exact hz, (str_len s).symm⟩, k _ H (Same.refl H) (flat_rep rfl _ _)⟩
    · cases e
  | tup xs =>
    simp only [blen, Res.ok.injEq] at e
    subst e
    obtain ⟨a, vs, rfl, q, r⟩ := (by simpa only [RepW, Rep] using h1 : ∃ a vs, x = .ref a ∧ SqT X.K H a vs ∧ RepL X.K A H xs vs)
    refine ⟨_, xs.length, rfl, .inr ⟨vs, q, r.length⟩, k _ H (Same.refl H) (flat_rep rfl _ _)⟩
  | lst xs =>
    simp only [blen, Res.ok.injEq] at e
    subst e
    obtain ⟨a, vs, rfl, q, r⟩ := h1
    refine ⟨_, xs.length, rfl, .inl ⟨vs, .inl q, r.length⟩, k _ H (Same.refl H) (flat_rep rfl _ _)⟩
  | dic t kvs => simp [isDic] at hnd
  | _ => simp [blen] at e
theorem v_len : CallR X (.builtin "len") (c1 X.K blen) := fun pins s σ H xs us Q I rx ⟨x, e0, A, d1, d, h1, ha, e, k⟩ => by
  cases hnd : isDic d1 with
  | false => exact v_len0 pins s σ H xs us Q I rx ⟨x, e0, A, d1, d, hnd, h1, e, k⟩
  | true =>
    cases d1 <;> simp only [isDic, reduceCtorEq] at hnd
    simp only [blen, Res.ok.injEq] at e
    subst e
    obtain ⟨a, rfl, g⟩ := h1
    subst e0
    cases rx with
    | cons r rr =>
      cases rr
      cases (show _ = Value.ref a from r)
      exact dic_len I g RepT.len RepK.len fun t' s' I' => ⟨.int _, H, I', ⟨t', rfl⟩, k _ H (Same.refl H) (flat_rep rfl _ _)⟩
theorem n_len : NoEx1 blen := fun x c fs => by
  cases x <;> simp only [blen] <;> first | (split <;> rfl) | rfl
theorem v_int : CallR X (.type "int") (c1 X.K bint) := cimp call_int1 fun xs H Q ⟨x, e0, A, d1, d, h1, _, e, k⟩ => by
  subst e0
  cases d1 with
  | int i =>
    simp only [bint, Res.ok.injEq] at e
    subst e
    have h' : x = .int i := h1
    subst h'
    exact .inl ⟨i, rfl, k _ H (Same.refl H) (flat_rep rfl _ _)⟩
  | bl b =>
    simp only [bint, Res.ok.injEq] at e
    subst e
    have h' : x = .bl b := h1
    subst h'
    exact .inr ⟨b, rfl, k _ H (Same.refl H) (flat_rep rfl _ _)⟩
  | _ => simp [bint] at e
theorem n_int : NoEx1 bint := fun x c fs => by cases x <;> rfl
theorem v_tuple : CallR X (.type "tuple") (c1 X.K btuple) := cimp call_tuple_of fun xs H Q ⟨x, e0, A, d1, d, h1, ha, e, k⟩ => by
  subst e0
  cases d1 with
  | lst xs =>
    simp only [btuple, Res.ok.injEq] at e
    subst e
    obtain ⟨a, vs, rfl, q, r⟩ := h1
    exact ⟨a, vs, rfl, .inl ⟨.inl q, fun l hl => k _ _ (new_same hl) (new_tup r hl)⟩⟩
  | tup xs =>
    simp only [btuple, Res.ok.injEq] at e
    subst e
    obtain ⟨a, vs, rfl, q, r⟩ := (by simpa only [RepW, Rep] using h1 : ∃ a vs, x = .ref a ∧ SqT X.K H a vs ∧ RepL X.K A H xs vs)
    exact ⟨a, vs, rfl, .inr ⟨q, k _ H (Same.refl H) h1⟩⟩
  | _ => simp [btuple] at e
theorem n_tuple : NoEx1 btuple := fun x c fs => by cases x <;> rfl
theorem ints_of {K : Frag} {A : AS} {H : Hp} : ∀ {ds : List D} {vs : List V} {is : List Int}, RepL K A H ds vs → intsOf ds = some is → vs = is.map V.int
  | [], vs, is, h, e => by
    simp only [RepL] at h
    simp only [intsOf, Option.some.injEq] at e
    subst h e
    rfl
  | d :: ds, vs, is, h, e => by
    simp only [RepL] at h
    obtain ⟨v, r, rfl, h1, h2⟩ := h
    cases d with
    | int i =>
      simp only [intsOf] at e
      cases q : intsOf ds with
      | none => rw [q] at e; cases e
      | some js =>
        rw [q] at e
        have e2 : i :: js = is := Option.some.inj e
        subst e2
        have h1' : v = .int i := h1
        rw [h1', ints_of h2 q]
        rfl
    | _ => simp [intsOf] at e
theorem bools_of {K : Frag} {A : AS} {H : Hp} : ∀ {ds : List D} {vs : List V} {is : List Bool}, RepL K A H ds vs → boolsOf ds = some is → vs = is.map V.bl
  | [], vs, is, h, e => by
    simp only [RepL] at h
    simp only [boolsOf, Option.some.injEq] at e
    subst h e
    rfl
  | d :: ds, vs, is, h, e => by
    simp only [RepL] at h
    obtain ⟨v, r, rfl, h1, h2⟩ := h
    cases d with
    | bl i =>
      simp only [boolsOf] at e
      cases q : boolsOf ds with
      | none => rw [q] at e; cases e
      | some js =>
        rw [q] at e
        have e2 : i :: js = is := Option.some.inj e
        subst e2
        have h1' : v = .bl i := h1
        rw [h1', bools_of h2 q]
        rfl
    | _ => simp [boolsOf] at e
theorem v_sum (hc : X.calm = true) : CallR X (.builtin "sum") (c1 X.K bsum) := cimp (cr_sum hc) fun xs H Q ⟨x, e0, A, d1, d, h1, ha, e, k⟩ => by
  subst e0
  cases d1 with
  | lst xs =>
    simp only [bsum] at e
    split at e
    · rename_i is hi
      simp only [Res.ok.injEq] at e
      subst e
      obtain ⟨a, vs, rfl, q, r⟩ := h1
      have e1 := ints_of r hi
      subst e1
      exact ⟨a, is, rfl, .inl q, k _ H (Same.refl H) (flat_rep rfl _ _)⟩
    · cases e
  | _ => simp [bsum] at e
theorem v_all (hc : X.calm = true) : CallR X (.builtin "all") (c1 X.K ball) := cimp (cr_all hc) fun xs H Q ⟨x, e0, A, d1, d, h1, ha, e, k⟩ => by
  subst e0
  cases d1 with
  | lst xs =>
    simp only [ball] at e
    split at e
    · rename_i is hi
      simp only [Res.ok.injEq] at e
      subst e
      obtain ⟨a, vs, rfl, q, r⟩ := h1
      have e1 := bools_of r hi
      subst e1
      exact ⟨a, is, rfl, .inl q, k _ H (Same.refl H) (flat_rep rfl _ _)⟩
    · cases e
  | _ => simp [ball] at e
theorem n_sum : NoEx1 bsum := fun x c fs => by
  cases x <;> simp only [bsum] <;> first | (split <;> rfl) | rfl
theorem n_all : NoEx1 ball := fun x c fs => by
  cases x <;> simp only [ball] <;> first | (split <;> rfl) | rfl
theorem v_max2 (hc : X.calm = true) : CallR X (.builtin "max") (c2 X.K bmax2) := cimp (call_max2 hc) fun xs H Q ⟨x, y, e0, A, d1, d2, d, h1, h2, ha, e, k⟩ => by
  subst e0
  cases d1 <;> cases d2 <;> simp only [bmax2, Res.ok.injEq, reduceCtorEq] at e
  subst e
  rename_i i j
  exact ⟨i, j, by rw [rep_int h1, rep_int h2], k _ H (Same.refl H) (flat_rep rfl _ _)⟩
theorem v_min2 (hc : X.calm = true) : CallR X (.builtin "min") (c2 X.K bmin2) := cimp (call_min2 hc) fun xs H Q ⟨x, y, e0, A, d1, d2, d, h1, h2, ha, e, k⟩ => by
  subst e0
  cases d1 <;> cases d2 <;> simp only [bmin2, Res.ok.injEq, reduceCtorEq] at e
  subst e
  rename_i i j
  exact ⟨i, j, by rw [rep_int h1, rep_int h2], k _ H (Same.refl H) (flat_rep rfl _ _)⟩
theorem n_max2 : NoEx2 bmax2 := fun x y c fs => by cases x <;> cases y <;> rfl
theorem n_min2 : NoEx2 bmin2 := fun x y c fs => by cases x <;> cases y <;> rfl
/-- list(x) as a new list -/
theorem f_list {x : Str} {p : Pos} (hx : x = "list") (hg : Gl X x) (hm : X.mg x = none) (ha : PE X a (tW X.K W ow ma)) (hs : starEach [a] X.env = [(false, eval a X.env)] := by rfl) : PE X (.Call (.Name x p) [a] [] pos) (tF X.K W ow (un blist ma)) := by
  subst hx
  refine PE.of (pe_callTy call_list_of hg hm (by decide +kernel) (pa_cons ha pa_nil hs) (by decide) (by decide) hs (by rfl)) fun σ H Q ⟨A, H0, O, en, R, q⟩ => ⟨A, H0, O, en, R, (Out.bind q).good fun d q1 v H1 s1 r1 => ?_⟩
  cases d with
  | lst xs =>
    obtain ⟨a, vs, rfl, q, r⟩ := r1
    exact ⟨a, vs, rfl, .inl (.inl q), fun l hl => q1 l _ (s1.free hl) (s1.trans (new_same hl)) ⟨vs, upd_same, RepL.move ⟨fun b hb => hb.elim .inl fun z => by subst z; exact .inr hl, fun b o e _ => new_same hl b o e⟩ _ _ r⟩⟩
  | tup xs =>
    obtain ⟨a, vs, rfl, q, r⟩ := (by simpa only [RepW, Rep] using r1 : ∃ a vs, v = .ref a ∧ SqT X.K H1 a vs ∧ RepL X.K (AO A O) H1 xs vs)
    exact ⟨a, vs, rfl, .inr q, fun l hl => q1 l _ (s1.free hl) (s1.trans (new_same hl)) ⟨vs, upd_same, RepL.move ⟨fun b hb => hb.elim .inl fun z => by subst z; exact .inr hl, fun b o e _ => new_same hl b o e⟩ _ _ r⟩⟩
  | _ => exact q1.elim
end
end Py
/-! What is walked, targets, comprehensions. -/
namespace Py
variable [WI]
open PySem L2
/-- J gives the data xs, one a turn, as long as the heap moves so -/
def Itm (M : AS → Hp → AS → Hp → Prop) (K : Frag) (A : AS) (J : It) (xs : List D) (H : Hp) : Prop := ∀ i A2 H2, M A H A2 H2 →
  (i < xs.length → J.go i H2 ∧ ∀ x H3, J.yld i H2 x H3 → Same H2 H3 ∧ ∃ d, xs[i]? = some d ∧ Rep K A2 H3 d x) ∧ (i = xs.length → J.stop i H2)
/-- .. as it only grows -/
def Gr (A : AS) (H : Hp) (A' : AS) (H' : Hp) : Prop := (∀ a, A' a → A a ∨ H a = none) ∧ Same H H'
theorem Gr.mv {A A' : AS} {H H' : Hp} (h : Gr A H A' H') : Mv A H A' H' := ⟨h.1, fun a o e _ => h.2 a o e⟩
abbrev MvT := AS → Hp → AS → Hp → Prop
theorem Itm.gr {K : Frag} {A : AS} {J : It} {xs : List D} {H : Hp} (h : Itm Mv K A J xs H) : Itm Gr K A J xs H := fun i A2 H2 m => h i A2 H2 m.mv
def tI (M : MvT) (K : Frag) (W : WX) (ow : Ow) (m : IM) : TI := fun σ H R => ∃ A H0 O e, ER K A H0 ow O σ H e ∧
  Out (m e) (fun xs => ∀ J H', Same H H' → Itm M K (AO A O) J xs H' → R J H') (badE K W A O σ H)
theorem PI.of {X : Cx} [CW X] {tg iter : Expr} {t t' : TI} (h : PI X tg iter t) (k : ∀ σ H R, t' σ H R → t σ H R) : PI X tg iter t' := ⟨fun pins s σ H R I q => h.run pins s σ H R I (k σ H R q)⟩
section
variable {X : Cx} [CW X] {W : WX} {A : AS} {H0 : Base} {ow : Ow} {tg a b c e : Expr} {es : List Expr} {m ma mb mc : EM} {am : AM} {pos p : Pos}
/-- a list or a tuple -/
theorem pi_either {l : Expr} {tl : TE} (hl : PE X l tl) : PI X tg l (fun σ H R => tl σ H fun x H1 => ∃ a, x = .ref a ∧ ((∃ xs, SqL X.K H1 a xs ∧ R (Itl X.K a) H1) ∨ ∃ xs, SqT X.K H1 a xs ∧ R (Itt X.K a) H1)) := by
  refine ⟨fun pins s σ H R I h => ?_⟩
  refine thn (hl.run pins s σ H _ I h) fun v s1 ⟨x, H1, I1, r1, q1⟩ => ?_
  obtain ⟨a, e, q⟩ := q1
  subst e
  cases r1
  have fin : ∀ b ∈ [s1.heap.objs.size], FpOk X pins H1 b := fun b hb => by
    have e : b = s1.heap.objs.size := by simpa using hb
    subst e
    exact I1.fpOk (Nat.le_refl _) (I1.hok.fresh (Nat.le_refl _))
  rcases q with ⟨xs, hq, q⟩ | ⟨xs, hq, q⟩
  · obtain ⟨its, rv, p, hz⟩ := I1.list hq
    refine wpAny_pyIter_list p.isList ?_
    exact ⟨s1.heap.objs.size, [s1.heap.objs.size], _, _, H1, rfl, I1.kept (t' := s1.toks) fun b o e => Heap.get?_push_of_some _ e, turn_list a _, ⟨_, Heap.get?_push_size _ rfl, rfl, rfl⟩, fin, q⟩
  · obtain ⟨its, rv, p, hz⟩ := I1.tuple hq
    refine wpAny_pyIter_tuple (show s1.heap.IsTuple a its.toArray from p) ?_
    exact ⟨s1.heap.objs.size, [s1.heap.objs.size], _, _, H1, rfl, I1.kept (t' := s1.toks) fun b o e => Heap.get?_push_of_some _ e, turn_tuple a _, ⟨_, Heap.get?_push_size _ rfl, rfl, rfl⟩, fin, q⟩
theorem itm_tup {K : Frag} {A : AS} {H : Hp} {a : Addr} {ds : List D} {vs : List V} (q : SqT K H a vs) (r : RepL K A H ds vs) : Itm Mv K A (Itt K a) ds H := fun i A2 H2 m => by
  have q2 := SqT.move m q
  have r2 := RepL.move m ds vs r
  refine ⟨fun hi => ?_, fun hi => ⟨vs, q2, by rw [← r.length]; exact Nat.le_of_eq hi.symm⟩⟩
  obtain ⟨v, hv, rv⟩ := r2.get (i := i) (List.getElem?_eq_getElem hi)
  refine ⟨⟨vs, v, q2, hv⟩, fun x H3 ⟨e, k⟩ => ?_⟩
  subst e
  have := k vs q2
  rw [hv] at this
  cases this
  exact ⟨Same.refl _, _, List.getElem?_eq_getElem hi, rv⟩
theorem itm_lst {M : MvT} {K : Frag} {A : AS} {H : Hp} {a : Addr} {ds : List D} {vs : List V} (hM : ∀ A2 H2, M A H A2 H2 → Mv A H A2 H2 ∧ Rd H2 a (.lst vs)) (r : RepL K A H ds vs) : Itm M K A (Itl K a) ds H := fun i A2 H2 m => by
  obtain ⟨mv, rd⟩ := hM A2 H2 m
  have q2 : SqL K H2 a vs := .inl rd
  have r2 := RepL.move mv ds vs r
  refine ⟨fun hi => ?_, fun hi => ⟨vs, q2, by rw [← r.length]; exact Nat.le_of_eq hi.symm⟩⟩
  obtain ⟨v, hv, rv⟩ := r2.get (i := i) (List.getElem?_eq_getElem hi)
  refine ⟨⟨vs, v, q2, hv⟩, fun x H3 ⟨e, k⟩ => ?_⟩
  subst e
  have := k vs q2
  rw [hv] at this
  cases this
  exact ⟨Same.refl _, _, List.getElem?_eq_getElem hi, rv⟩
/-- for a for: a clean list or tuple -/
theorem i_seq (ha : PE X a (tE X.K W ow ma)) : PI X tg a (tI Mv X.K W ow (iseq ma)) :=
  PI.of (pi_either ha) fun σ H R' ⟨A, H0, O, en, R, q⟩ => ⟨A, H0, O, en, R, (Out.bind q).good fun d q1 v H1 s1 r1 => by
    cases d with
    | lst xs =>
      obtain ⟨p, vs, rfl, n, h, r⟩ := (by simpa only [Rep] using r1 : ∃ a vs, v = .ref a ∧ ¬ AO A O a ∧ Rd H1 a (.lst vs) ∧ RepL X.K (AO A O) H1 xs vs)
      exact ⟨p, rfl, .inl ⟨vs, .inl h, q1 _ H1 s1 (itm_lst (fun A2 H2 m => ⟨m, (Rd.move m h n).1⟩) r)⟩⟩
    | tup xs =>
      obtain ⟨p, vs, rfl, h, r⟩ := (by simpa only [Rep] using r1 : ∃ a vs, v = .ref a ∧ SqT X.K H1 a vs ∧ RepL X.K (AO A O) H1 xs vs)
      exact ⟨p, rfl, .inr ⟨vs, h, q1 _ H1 s1 (itm_tup h r)⟩⟩
    | _ => exact q1.elim⟩
theorem i_gr {it : IM} (h : PI X tg a (tI Mv X.K W ow it)) : PI X tg a (tI Gr X.K W ow it) :=
  PI.of h fun σ H R' ⟨A, H0, O, en, R, q⟩ => ⟨A, H0, O, en, R, q.good fun xs k J H' s i => k J H' s i.gr⟩
theorem itm_range {K : Frag} {A : AS} {H : Hp} {lo hi : Int} : Itm Mv K A (Itr lo (hi - lo).toNat) (rngL lo hi) H := fun i A2 H2 m => by
  have hl : (rngL lo hi).length = (hi - lo).toNat := by unfold rngL; simp
  rw [hl]
  refine ⟨fun h => ⟨h, fun x H3 ⟨e1, e2⟩ => ?_⟩, fun h => Nat.le_of_eq h.symm⟩
  subst e1 e2
  refine ⟨Same.refl _, .int (lo + (i : Nat)), ?_, rfl⟩
  unfold rngL
  rw [List.getElem?_map, List.getElem?_range h]
  rfl
theorem nb62 {n : Int} (h : n.natAbs < B62) : -(2 : Int) ^ 62 ≤ n ∧ n < 2 ^ 62 := by
  have e : (2 : Int) ^ 62 = 4611686018427387904 := by decide
  rw [e]
  unfold B62 at h
  omega
theorem rng1_of {σ : L2.St} {H : Hp} {R' : It → Hp → Prop} (h : tI Mv X.K W ow (irng1 ma) σ H R') : iRng1 (tCons (tE X.K W ow ma) tNil) σ H R' := by
  obtain ⟨A, H0, O, en, R, q⟩ := h
  refine ⟨A, H0, O, en, R, (Out.bind q).good fun d q1 v H1 s1 r1 => ?_⟩
  cases d with
  | int n =>
    simp only at q1
    split at q1
    · rename_i z
      have r1' : v = .int n := r1
      subst r1'
      refine ⟨n, rfl, (nb62 z).1, (nb62 z).2, ?_⟩
      have k := q1 (Itr 0 (n - 0).toNat) H1 s1 itm_range
      have e : n - 0 = n := Int.sub_zero n
      rw [e] at k
      exact k
    · exact q1.elim
  | _ => exact q1.elim
theorem i_rng1 (hg : Gl X "range") (hm : X.mg "range" = none) (ha : PE X a (tE X.K W ow ma)) (hs : starEach [a] X.env = [(false, eval a X.env)] := by rfl) : PI X tg (.Call (.Name "range" p) [a] [] pos) (tI Mv X.K W ow (irng1 ma)) :=
  PI.of (pi_range1 hg hm (pa_cons ha pa_nil hs) hs) fun σ H R' h => rng1_of h
/-! ### targets -/
/-- a target: ts are the slots that it sets -/
def tGt (K : Frag) (ow : Ow) (ts : List Nat) (g : GM) : TG := fun v σ H Q => ∃ A H0 O e d e', ER K A H0 ow O σ H e ∧ Rep K (AO A O) H d v ∧ g d e = some e' ∧
  ∀ σ', ER K A H0 ow O σ' H e' → σ'.length = σ.length → (∀ j, j ∉ ts → σ'[j]? = σ[j]?) → Q σ' H
theorem PG.of {tg : Expr} {t t' : TG} (h : PG X tg t) (k : ∀ v σ H Q, t' v σ H Q → t v σ H Q) : PG X tg t' := ⟨fun pins s σ H v u Q I r q => h.run pins s σ H v u Q I r (k v σ H Q q)⟩
theorem g_nm {i : Nat} (h : PG X tg (gName i)) (hi : ow i = false) : PG X tg (tGt X.K ow [i] (gnm i)) :=
  PG.of h fun v σ H Q ⟨A, H0, O, en, d, e', R, r, g, q⟩ => by
    cases g
    exact q _ (R.set hi r) (by simp) fun j hj => by
      have : i ≠ j := fun z => hj (by simp [z])
      rw [List.getElem?_set_ne this]
def tGts (K : Frag) (ow : Ow) (ts : List Nat) (gs : List GM) : TGs := fun vs σ H Q => ∃ A H0 O e ds e', ER K A H0 ow O σ H e ∧ RepL K (AO A O) H ds vs ∧ gtupL gs ds e = some e' ∧
  ∀ σ', ER K A H0 ow O σ' H e' → σ'.length = σ.length → (∀ j, j ∉ ts → σ'[j]? = σ[j]?) → Q σ' H
theorem PGs.of {tg : List Expr} {t t' : TGs} (h : PGs X tg t) (k : ∀ v σ H Q, t' v σ H Q → t v σ H Q) : PGs X tg t' := ⟨fun pins s σ H v u Q I r q => h.run pins s σ H v u Q I r (k v σ H Q q)⟩
theorem gs_nil : PGs X [] (tGts X.K ow [] []) := PGs.of pgs_nil fun vs σ H Q ⟨A, H0, O, en, ds, e', R, r, g, q⟩ => by
  cases ds with
  | nil =>
    simp only [RepL] at r
    subst r
    cases g
    exact ⟨rfl, q σ R rfl fun _ _ => rfl⟩
  | cons d ds => cases g
theorem gs_cons {ts us : List Nat} {g : GM} {gs : List GM} (h1 : PG X e (tGt X.K ow ts g)) (h2 : PGs X es (tGts X.K ow us gs))
    (hs : (assignEach (e :: es) X.env).map (·.2) = assign e X.env :: (assignEach es X.env).map (·.2) := by rfl) : PGs X (e :: es) (tGts X.K ow (ts ++ us) (g :: gs)) :=
  PGs.of (pgs_cons h1 h2 hs) fun vs σ H Q ⟨A, H0, O, en, ds, e', R, r, ge, q⟩ => by
    cases ds with
    | nil => cases ge
    | cons d ds =>
      simp only [RepL] at r
      obtain ⟨v, r', rfl, r1, r2⟩ := r
      simp only [gtupL] at ge
      cases e1 : g d en with
      | none => rw [e1] at ge; cases ge
      | some en1 =>
        rw [e1] at ge
        refine ⟨v, r', rfl, A, H0, O, en, d, en1, R, r1, e1, fun σ1 R1 l1 k1 => ⟨A, H0, O, en1, ds, e', R1, r2, ge, fun σ2 R2 l2 k2 => q σ2 R2 (l2.trans l1) fun j hj => ?_⟩⟩
        rw [k2 j fun z => hj (by simp [z]), k1 j fun z => hj (by simp [z])]
theorem gtupL_len : ∀ {gs : List GM} {ds : List D} {e e' : Env}, gtupL gs ds e = some e' → ds.length = gs.length
  | [], [], _, _, _ => rfl
  | [], _ :: _, _, _, h => by cases h
  | _ :: _, [], _, _, h => by cases h
  | g :: gs, d :: ds, e, e', h => by
    simp only [gtupL] at h
    cases e1 : g d e with
    | none => rw [e1] at h; cases h
    | some e2 =>
      rw [e1] at h
      simp only [List.length_cons]
      rw [gtupL_len (show gtupL gs ds e2 = some e' from h)]
theorem g_tup {ts : List Nat} {gs : List GM} {n k : Nat} (hc : X.calm = true) (h : PGs X es (tGts X.K ow ts gs)) (hn : (assignEach es X.env).length = n := by rfl) (hl : gs.length = n := by rfl)
    (hst : (assignEach es X.env).findIdx? (·.1) = none := by rfl) : PG X (.Tuple es k pos) (tGt X.K ow ts (gtup gs)) :=
  PG.of (pg_tup hc h hn hst) fun v σ H Q ⟨A, H0, O, en, d, e', R, r, g, q⟩ => by
    cases d with
    | tup xs =>
      obtain ⟨a, vs, rfl, h, r⟩ := (by simpa only [Rep] using r : ∃ a vs, v = .ref a ∧ SqT X.K H a vs ∧ RepL X.K (AO A O) H xs vs)
      exact ⟨a, vs, rfl, h, by rw [← r.length, ← hl]; exact gtupL_len g, A, H0, O, en, xs, e', R, r, g, q⟩
    | _ => cases g
/-! ### comprehensions -/
abbrev W0 : WX := fun _ _ _ _ => False
theorem wipe_eq : ∀ {vs : List Nat} {σ σ' : L2.St}, σ'.length = σ.length → (∀ j, j ∉ vs → σ'[j]? = σ[j]?) → L2.wipe σ' vs = L2.wipe σ vs := fun {vs σ σ'} hl h => by
  apply List.ext_getElem?
  intro i
  by_cases hi : i ∈ vs
  · have key : ∀ (us : List Nat) (τ : L2.St), i ∈ us → (L2.wipe τ us)[i]? = if i < τ.length then some none else none := by
      intro us τ
      induction us with
      | nil => intro h; cases h
      | cons u us ih =>
        intro hm
        unfold L2.wipe
        by_cases hu : u = i
        · subst hu
          rw [List.getElem?_set]
          simp only [if_true, L2.wipe_length]
        · rw [List.getElem?_set_ne hu]
          exact ih (by
            rcases List.mem_cons.mp hm with z | z
            · exact absurd z.symm hu
            · exact z)
    rw [key vs σ' hi, key vs σ hi, hl]
  · rw [L2.wipe_out hi, L2.wipe_out hi]
    exact h i hi
theorem compL_drop {f : D → Res (Option D)} {xs : List D} {i : Nat} {G : List D → Prop} {F : String → List (String × D) → Prop} (hi : i < xs.length) (h : Out (compL f (xs.drop i)) G F) :
    Out (f xs[i]) (fun o => Out (compL f (xs.drop (i + 1))) (fun zs => G (match o with | some y => y :: zs | none => zs)) F) F := by
  rw [List.drop_eq_getElem_cons hi] at h
  simp only [compL] at h
  exact (Out.bind h).good fun o h2 => (Out.bind h2).good fun zs h3 => h3
theorem noexc_of {α β : Type} {r : Res α} {k : α → Res β} {good : β → Prop} {bad bad' : String → List (String × D) → Prop} (h : Out (noexc r >>= k) good bad) : Out r (fun a => Out (k a) good bad) bad' := (Out.bind h).noexc
theorem ER.more {K : Frag} {A A' : AS} {H0 : Base} {ow : Ow} {O : OW} {σ : L2.St} {H H' : Hp} {e : Env} (R : ER K A H0 ow O σ H e) (h0 : ∀ a, A' a → H' a ≠ none) (s : Same H H') (hA : ∀ a, A' a → A a ∨ H a = none) (hA2 : ∀ a, A a → A' a) : ER K A' H0 ow O σ H' e := by
  have mv : Mv (AO A O) H (AO A' O) H' := ⟨fun a ha => by
    rcases ha with ha | ha
    · rcases hA a ha with z | z
      · exact .inl (.inl z)
      · exact .inr z
    · exact .inl (.inr ha), fun a o e _ => s a o e⟩
  refine ⟨R.len, h0, R.same.trans s, fun i d h1 h2 => ?_, fun i d h1 h2 => ?_, fun i a h => ⟨(R.fresh i a h).1, ne_none s (R.fresh i a h).2.1, fun z => (hA a z).elim (R.fresh i a h).2.2 (R.fresh i a h).2.1⟩, R.inj, R.pin, R.exq.heap mv fun da fvs e => s _ _ e⟩
  · obtain ⟨v, q, r⟩ := R.vals i d h1 h2
    exact ⟨v, q, Rep.move mv _ _ r⟩
  · obtain ⟨a, q, q2, r⟩ := R.owns i d h1 h2
    exact ⟨a, q, q2, r.move mv (R.kept s q) fun t b z => ⟨z, R.kept s z⟩⟩
/-- [elt for tg in iter if test]; vs: the block's own names, ts: those that the target sets -/
theorem lc_of {K : Frag} {it : IM} {vs ts : List Nat} {g : GM} {t : TM} {elt : EM} (hx : ow.x = none) (hts : ∀ j ∈ ts, j ∈ vs) {σ : L2.St} {H : Hp} {Q : VK} (h : tF K W ow (lcE it vs g t elt) σ H Q) :
    tLc (tI Gr K W ow it) (tGt K ow ts g) (tT K W0 ow t) (tE K W0 ow elt) vs σ H Q := by
  obtain ⟨A, H0, O, en, R, q⟩ := h
  refine ⟨A, H0, O, en, R, (Out.bind q).good fun xs q1 J H1 s1 itm D hD => ?_⟩
  have q0 := noexc_of (bad' := Nev) q1
  by_cases hsz : xs.length ≤ SZ
  case neg =>
    exact (Out.void (q0.good fun ys q2 => by
      unfold chk at q2
      rw [if_neg hsz] at q2
      exact q2)).elim
  have q2 := q0.good fun ys (q2 : Out (chk xs.length (.lst ys)) _ _) => (by
    unfold chk at q2
    rw [if_pos hsz] at q2
    exact fun a H' n s h => q2 a H' (s1.free n) (s1.trans s) h : ∀ (a : Addr) (H' : Hp), H1 a = none → Same H1 H' → OwnAt K (fun b => AO A O b ∨ b = a) H' a (.lst ys) → Q (.ref a) H')
  have hsl : SZ = sizeLine := rfl
  have R1 := R.to s1
  have hAD : ¬ AO A O D := fun z => R1.there D z hD
  generalize hA' : (fun b => A b ∨ b = D : AS) = A'
  have hA1 : ∀ b, AO A' O b → AO A O b ∨ b = D := fun b hb => by
    subst hA'
    rcases hb with (hb | hb) | hb
    · exact .inl (.inl hb)
    · exact .inr hb
    · exact .inl (.inr hb)
  have hA2 : ∀ b, AO A O b ∨ b = D → AO A' O b := fun b hb => by
    subst hA'
    rcases hb with (hb | hb) | hb
    · exact .inl (.inl hb)
    · exact .inr hb
    · exact .inl (.inr hb)
  refine ⟨fun i m H' => m = xs.length - i ∧ i ≤ xs.length ∧ ∃ acc vs', H' D = some (.lst vs') ∧ Same H1 H' ∧ acc.length ≤ i ∧ Out (compL (compF vs g t elt en) (xs.drop i)) (fun zs => ∀ (a : Addr) (H' : Hp), H1 a = none → Same H1 H' → OwnAt K (fun b => AO A O b ∨ b = a) H' a (.lst (acc ++ zs)) → Q (.ref a) H') Nev ∧ RepL K (AO A' O) H' acc vs', ⟨xs.length, by simp, Nat.zero_le _, [], [], upd_same, new_same hD, Nat.le_refl _, q2, by simp [RepL]⟩, ?_⟩
  rintro i m H' ⟨rfl, hi, acc, vs', hH', s2, hal, hz, hr2⟩
  have im := itm i (AO A' O) H' ⟨fun b hb => (hA1 b hb).elim .inl fun z => by rw [z]; exact .inr hD, s2⟩
  by_cases hlt : i < xs.length
  · right
    obtain ⟨hgo, hy⟩ := im.1 hlt
    have hf := compL_drop hlt hz
    refine ⟨hgo, fun H'' => ∃ acc vs', H'' D = some (.lst vs') ∧ Same H1 H'' ∧ acc.length ≤ i + 1 ∧ Out (compL (compF vs g t elt en) (xs.drop (i + 1))) (fun zs => ∀ (a : Addr) (H' : Hp), H1 a = none → Same H1 H' → OwnAt K (fun b => AO A O b ∨ b = a) H' a (.lst (acc ++ zs)) → Q (.ref a) H') Nev ∧ RepL K (AO A' O) H'' acc vs', fun H'' ⟨a1, a2, h1, h2, h3, h4, h6⟩ => ⟨xs.length - (i + 1), by omega, rfl, by omega, a1, a2, h1, h2, h3, h4, h6⟩, fun x H3 y => ?_⟩
    obtain ⟨s3, d, hd, rd⟩ := hy x H3 y
    have hd' : d = xs[i] := by
      rw [List.getElem?_eq_getElem hlt] at hd
      exact (Option.some.inj hd).symm
    subst hd'
    unfold compF at hf
    cases hg : g xs[i] (wipe en vs) with
    | none => rw [hg] at hf; exact hf.elim
    | some e1 =>
      rw [hg, lift_some, bind_ok] at hf
      have s13 := s2.trans s3
      have hD3 : H3 D ≠ none := by
        rw [s3 _ _ hH']
        exact fun z => nomatch z
      have R3 : ER K A' H0 ow O (L2.wipe σ vs) H3 (wipe en vs) := ((R1.more (A' := A') (H' := H3) (fun b hb => by
        rcases hA1 b (.inl hb) with z | z
        · exact (R1.to s13).there b z
        · rw [z]
          exact hD3) s13 (fun b hb => by
        subst hA'
        rcases hb with hb | hb
        · exact .inl hb
        · rw [hb]
          exact .inr hD) (fun b hb => by
        subst hA'
        exact .inl hb))).wipe vs hx
      refine ⟨A', H0, O, wipe en vs, xs[i], e1, R3, rd, hg, fun σ1 Rσ l1 k1 => ⟨?_, ?_⟩⟩
      · have w1 := wipe_eq (vs := vs) (σ := L2.wipe σ vs) (σ' := σ1) l1 fun j hj => k1 j fun z => hj (hts j z)
        rw [w1]
        exact wipe_eq (L2.wipe_length _ _) fun j hj => L2.wipe_out hj
      · refine ⟨A', H0, O, e1, Rσ, (Out.bind hf).imp (fun bb _ hf => ?_) fun _ _ z => z.elim⟩
        intro H4 s4
        cases bb with
        | false =>
            rw [if_neg (by decide)] at hf ⊢
            have s5 : Same H' H4 := s3.trans s4
            exact ⟨acc, vs', s5 _ _ hH', s2.trans s5, by omega, hf, RepL.move (Mv.same s5) _ _ hr2⟩
        | true =>
              rw [if_pos rfl] at hf ⊢
              refine ⟨A', H0, O, e1, Rσ.to s4, (Out.bind hf).imp (fun y' _ hf => ?_) fun _ _ z => z.elim⟩
              intro v5 H5 s5 r5
              have s6 : Same H' H5 := (s3.trans s4).trans s5
              have a1 := s6 _ _ hH'
              have hmv : Mv (AO A' O) H5 (AO A' O) (upd H5 D (.lst (vs' ++ [v5]))) := ⟨fun b hb => .inl hb, fun b o' e1 hb => by
                rw [upd_ne]
                · exact e1
                · intro z
                  subst z
                  rcases hb with hb | hb
                  · exact hb (hA2 _ (.inr rfl))
                  · rw [a1] at e1
                    cases e1
                    exact hb⟩
              have rall := (RepL.move (Mv.same s6) _ _ hr2).append (RepL.one r5)
              have hlen := hr2.length
              refine ⟨vs', a1, by omega, acc ++ [y'], vs' ++ [v5], upd_same, fun b o' e1 => ?_, by simp; omega, Out.good (show Out (compL _ _) _ _ from hf) fun zs h => by rw [List.append_assoc]; exact h, RepL.move hmv _ _ rall⟩
              rw [upd_ne (ne_of_none e1 hD)]
              exact s6 _ _ (s2 _ _ e1)
  · left
    refine ⟨im.2 (by omega), ?_⟩
    have hi2 : i = xs.length := by omega
    subst hi2
    rw [List.drop_length] at hz
    have hz : ∀ (a : Addr) (H' : Hp), H1 a = none → Same H1 H' → OwnAt K (fun b => AO A O b ∨ b = a) H' a (.lst (acc ++ [])) → Q (.ref a) H' := hz
    rw [List.append_nil] at hz
    exact hz D H' hD s2 ⟨vs', hH', RepL.move (Mv.less fun b hb => hA2 b hb) _ _ hr2⟩
end
end Py
/-! Statements. -/
namespace Py
variable [WI]
open PySem L2
section
variable {K : Frag} {A : AS} {H0 : Base} {ow : Ow} {O : OW} {σ : L2.St} {H H' : Hp} {e : Env}
/-- every name gives up what it owns -/
theorem ER.freeze (R : ER K A H0 ow O σ H e) : ER K A ⟨H0.hp, none⟩ ow.off (fun _ => none) σ H e := by
  have mv : Mv (AO A O) H (AO A fun _ => none) H := Mv.less fun b hb => hb.elim .inl fun ⟨_, z⟩ => nomatch z
  refine ⟨R.len, R.a0, R.same, fun i d h1 _ => ?_, fun i d h1 h2 => ?_, fun i a h => (nomatch h), fun i j a h => (nomatch h), fun a h => (nomatch h), fun q hq => ?_⟩
  rotate_right
  · obtain ⟨h1, h2, h3, fvs, h4, h5⟩ := R.exq q hq
    refine ⟨?_, h2, h3, fvs, h4, RepF.move mv _ _ h5⟩
    have hq2 : ow.x = some q := hq
    simp only [Ow.off, hq2, beq_self_eq_true]
  rotate_right
  · simp only [Ow.off] at h2
    cases hq : ow.x with
    | none =>
      rw [hq] at h2
      cases h2
    | some q =>
      rw [hq] at h2
      have hi : i = q.i := by simpa using h2
      subst hi
      exact absurd h1 ((R.exq q hq).no d)
  cases hi : ow i with
  | false =>
    obtain ⟨v, q, r⟩ := R.vals i d h1 hi
    exact ⟨v, q, Rep.move mv _ _ r⟩
  | true =>
    obtain ⟨a, q, q2, r⟩ := R.owns i d h1 hi
    refine ⟨.ref a, q2, ?_⟩
    have na : ¬ AO A (fun _ => none) a := fun z => z.elim (R.fresh _ a q).2.2 fun ⟨_, w⟩ => nomatch w
    exact r.rep mv na fun t b z w => w.elim (R.fresh _ b z).2.2 fun ⟨_, w⟩ => nomatch w
/-- a name's own object changes -/
theorem ER.write (R : ER K A H0 ow O σ H e) {i : Nat} {a : Addr} {o : HO} {d d' : D} (hi : ow i = true) (he : e[i]? = some (some d)) (ha : O (3 * i) = some a) (h : OwnG K (AO A O) (gh O i) (upd H a o) a d') : ER K A H0 ow O σ (upd H a o) (e.set i (some d')) := by
  obtain ⟨a1, q1, q2, r⟩ := R.owns i d he hi
  rw [ha] at q1
  cases q1
  obtain ⟨u0, hu0, hs0, hx0⟩ := r.obj
  have hst : ∀ u, H a = some u → ¬ still u := fun u hu => by
    rw [hu0] at hu
    cases hu
    exact hs0
  have mv : Mv (AO A O) H (AO A O) (upd H a o) := ⟨fun b hb => .inl hb, fun b u e1 hb => by
    rw [upd_ne]
    · exact e1
    · intro z
      subst z
      rcases hb with hb | hb
      · exact hb (.inr ⟨_, ha⟩)
      · exact hst u e1 hb⟩
  have hne : ∀ {H1 : Hp} {b : Addr}, H1 b ≠ none → (upd H1 a o) b ≠ none := fun {H1 b} h => by
    unfold upd
    split
    · exact fun z => nomatch z
    · exact h
  refine ⟨by simp [R.len], fun b hb => hne (R.a0 b hb), fun b u e1 => ?_, fun j dj h1 h2 => ?_, fun j dj h1 h2 => ?_, fun j b hb => ⟨(R.fresh j b hb).1, hne (R.fresh j b hb).2.1, (R.fresh j b hb).2.2⟩, R.inj, R.pin, R.exq.move mv (fun da fvs e1 => (upd_ne fun z => by
    subst z
    rw [hu0] at e1
    exact hx0 _ (Option.some.inj e1)).trans e1) fun j _ n => ⟨rfl, fun dj => by
      have hij : i ≠ j := fun z => by
        subst z
        exact n _ he
      rw [List.getElem?_set_ne hij]
      exact n dj⟩⟩
  · rw [upd_ne]
    · exact R.same b u e1
    · intro z
      rw [z, (R.fresh _ a ha).1] at e1
      cases e1
  · have hj : i ≠ j := fun z => by
      subst z
      rw [hi] at h2
      cases h2
    rw [List.getElem?_set_ne hj] at h1
    obtain ⟨v, q, r⟩ := R.vals j dj h1 h2
    exact ⟨v, q, Rep.move mv _ _ r⟩
  · by_cases hj : i = j
    · subst hj
      have hl := (List.getElem?_eq_some_iff.mp he).1
      rw [List.getElem?_set_self hl] at h1
      cases h1
      exact ⟨a, ha, q2, h⟩
    · rw [List.getElem?_set_ne hj] at h1
      obtain ⟨b, p1, p2, p3⟩ := R.owns j dj h1 h2
      have hba : b ≠ a := fun z => by
        subst z
        have := R.inj _ _ b ha p1
        omega
      refine ⟨b, p1, p2, p3.move mv (upd_ne hba) fun t b' z => ⟨z, upd_ne fun w => ?_⟩⟩
      subst w
      have := R.inj _ _ b' ha z
      cases t <;> simp at this <;> omega
/-- a name gets an object of its own -/
theorem ER.take (R : ER K A H0 ow O σ H e) {i : Nat} {a : Addr} {d : D} (s : Same H H') (hxi : ∀ q, ow.x = some q → q.i ≠ i) (hi : ow i = true) (h0 : 0 < i) (hn : H a = none) (h : OwnAt K (fun b => AO A O b ∨ b = a) H' a d) :
    ER K A H0 ow (fun j => if j = 3 * i then some a else O j) (σ.set i (some (.ref a))) H' (e.set i (some d)) ∧ Mv (AO A O) H (AO A fun j => if j = 3 * i then some a else O j) H' := by
  have sub : ∀ b, AO A (fun j => if j = 3 * i then some a else O j) b → AO A O b ∨ b = a := fun b hb => by
    rcases hb with hb | ⟨j, hb⟩
    · exact .inl (.inl hb)
    · by_cases hj : j = 3 * i
      · simp only [hj, if_true, Option.some.injEq] at hb
        exact .inr hb.symm
      · simp only [hj, if_false] at hb
        exact .inl (.inr ⟨j, hb⟩)
  have mv : Mv (AO A O) H (AO A fun j => if j = 3 * i then some a else O j) H' := ⟨fun b hb => (sub b hb).elim .inl fun z => by rw [z]; exact .inr hn, fun b o e1 _ => s b o e1⟩
  have mv2 : Mv (fun b => AO A O b ∨ b = a) H' (AO A fun j => if j = 3 * i then some a else O j) H' := Mv.less sub
  have ha : H' a ≠ none := by
    obtain ⟨u, hu, _, _⟩ := h.obj
    rw [hu]
    exact fun z => nomatch z
  refine ⟨⟨by simp [R.len], fun b hb => ne_none s (R.a0 b hb), R.same.trans s, fun j dj h1 h2 => ?_, fun j dj h1 h2 => ?_, fun j b hb => ?_, fun j k b hj hk => ?_, fun b hb => ?_, fun q hq => ?_⟩, mv⟩
  rotate_right
  · obtain ⟨z1, z2, z3, fvs, z4, z5⟩ := R.exq q hq
    have hne : i ≠ q.i := fun z => hxi q hq z.symm
    refine ⟨z1, ?_, ?_, fvs, s _ _ z4, RepF.move mv _ _ z5⟩ <;> rw [List.getElem?_set_ne hne]
    · exact z2
    · exact z3
  · have hj : i ≠ j := fun z => by
      subst z
      rw [hi] at h2
      cases h2
    rw [List.getElem?_set_ne hj] at h1
    obtain ⟨v, q, r⟩ := R.vals j dj h1 h2
    exact ⟨v, by rw [List.getElem?_set_ne hj]; exact q, Rep.move mv _ _ r⟩
  · by_cases hj : i = j
    · subst hj
      have hl : i < e.length := by
        have := (List.getElem?_eq_some_iff.mp h1).1
        simpa using this
      rw [List.getElem?_set_self hl] at h1
      cases h1
      exact ⟨a, by simp, List.getElem?_set_self (by rw [R.len]; exact hl), (h.move mv2 rfl).g⟩
    · rw [List.getElem?_set_ne hj] at h1
      obtain ⟨b, p1, p2, p3⟩ := R.owns j dj h1 h2
      have hj' : ¬ 3 * j = 3 * i := fun z => hj (by omega)
      refine ⟨b, by simp only [hj', if_false]; exact p1, by rw [List.getElem?_set_ne hj]; exact p2, p3.move mv (R.kept s p1) fun t b' z => ⟨?_, R.kept s z⟩⟩
      have hj2 : ¬ (3 * j + if t then 2 else 1) = 3 * i := by cases t <;> simp <;> omega
      exact (if_neg hj2).trans z
  · by_cases hj : j = 3 * i
    · simp only [hj, if_true, Option.some.injEq] at hb
      subst hb
      refine ⟨?_, ha, fun z => R.a0 a z hn⟩
      cases z : H0.hp a with
      | none => rfl
      | some o =>
        rw [R.same a o z] at hn
        cases hn
    · simp only [hj, if_false] at hb
      exact ⟨(R.fresh j b hb).1, ne_none s (R.fresh j b hb).2.1, (R.fresh j b hb).2.2⟩
  · have old : ∀ l b, O l = some b → b ≠ a := fun l b hl z => by
      rw [z] at hl
      exact (R.fresh l a hl).2.1 hn
    by_cases h1 : j = 3 * i
    · by_cases h2 : k = 3 * i
      · rw [h1, h2]
      · simp only [h1, if_true, Option.some.injEq] at hj
        simp only [h2, if_false] at hk
        exact absurd hj.symm (old k b hk)
    · by_cases h2 : k = 3 * i
      · simp only [h2, if_true, Option.some.injEq] at hk
        simp only [h1, if_false] at hj
        exact absurd hk.symm (old j b hj)
      · simp only [h1, if_false] at hj
        simp only [h2, if_false] at hk
        exact R.inj j k b hj hk
  · have h1 : ¬ 0 = 3 * i := fun z => by omega
    simp only [h1, if_false]
    exact R.pin b hb
end
/-- what is given back; fr: an object that is new and its caller's own -/
inductive Rm where
  | val | own | lent | two
/-- what an object at a and its inner ones take -/
def gA (A : AS) (a : Addr) (G : GW) : AS := fun z => (A z ∨ z = a) ∨ ∃ t, G t = some z
/-- the inner objects of the object at a: they are there, P is true of them -/
structure Inn (A : AS) (P : Addr → Prop) (H' : Hp) (a : Addr) (G : GW) : Prop where
  new : ∀ t b, G t = some b → P b ∧ H' b ≠ none ∧ ¬ A b ∧ b ≠ a
  inj : ∀ t t' b, G t = some b → G t' = some b → t = t'
def RetOk (fr : Rm) (K : Frag) (A : AS) (H0 : Base) (H' : Hp) (d : D) (v : V) : Prop := match fr with
  | .val => Rep K A H' d v
  | .own => ∃ a, v = .ref a ∧ H0.hp a = none ∧ OwnAt K (fun b => A b ∨ b = a) H' a d
  | .lent => ∃ r l, d = .tup [r, l] ∧ ∀ a, H0.px = some a → ∃ G, Inn A (fun b => H0.hp b = none) H' a G ∧ Rep K (gA A a G) H' r v ∧ OwnG K (gA A a G) G H' a l
  | .two => ∃ a b c x y, v = .ref a ∧ d = .tup [x, y] ∧ SqT K H' a [.ref b, .ref c] ∧ b ≠ c ∧ H0.hp b = none ∧ H0.hp c = none ∧ OwnAt K (fun z => (A z ∨ z = b) ∨ z = c) H' b x ∧ OwnAt K (fun z => (A z ∨ z = b) ∨ z = c) H' c y
/-- what must hold behind a statement; oN: who owns behind it, oB: who owns at a break, a continue -/
def EndOk3 (fr : Rm) (K : Frag) (A : AS) (H0 : Base) (oN oB : Ow) (O : OW) (H : Hp) (D : Ends) : Fl → Prop
  | .next e' => ∀ O' σ' H', ER K A H0 oN O' σ' H' e' → Mv (AO A O) H (AO A O') H' → D.nx σ' H'
  | .ret d => ∀ v H', Same H0.hp H' → RetOk fr K A H0 H' d v → D.rt v H'
  | .brk e' => ∀ O' σ' H', ER K A H0 oB O' σ' H' e' → Mv (AO A O) H (AO A O') H' → D.bk σ' H'
  | .cnt e' => ∀ O' σ' H', ER K A H0 oB O' σ' H' e' → Mv (AO A O) H (AO A O') H' → D.ct σ' H'
abbrev EndOk (fr : Rm) (K : Frag) (A : AS) (H0 : Base) (ow : Ow) (O : OW) (H : Hp) (D : Ends) : Fl → Prop := EndOk3 fr K A H0 ow ow O H D
theorem EndOk3.to {fr : Rm} {K : Frag} {A : AS} {H0 : Base} {oN oB : Ow} {O O1 : OW} {H H1 : Hp} {D : Ends} (m : Mv (AO A O) H (AO A O1) H1) : ∀ {f : Fl}, EndOk3 fr K A H0 oN oB O H D f → EndOk3 fr K A H0 oN oB O1 H1 D f
  | .next _, h => fun O' σ' H' R n => h O' σ' H' R (m.trans n)
  | .ret _, h => h
  | .brk _, h => fun O' σ' H' R n => h O' σ' H' R (m.trans n)
  | .cnt _, h => fun O' σ' H' R n => h O' σ' H' R (m.trans n)
def badS (K : Frag) (W : WX) (A : AS) (H0 : Base) (c : String) (fs : List (String × D)) : Prop :=
  ∀ σ' da H' fvs, Same H0.hp H' → H' da = some (.xd fvs) → RepF K A H' fs fvs → W (.ref (ca K c)) (some da) σ' H'
theorem badS.e {K : Frag} {W : WX} {A : AS} {H0 : Base} {ow : Ow} {O : OW} {σ : L2.St} {H : Hp} {e : Env} (R : ER K A H0 ow O σ H e) {c : String} {fs : List (String × D)} (h : badS K W A H0 c fs) : badE K W A O σ H c fs := fun da H' fvs s q r =>
  h σ da H' fvs (R.same.trans s) q (RepF.move (Mv.less fun b => .inl) _ _ r)
def tS3 (fr : Rm) (K : Frag) (W : WX) (ow oN oB : Ow) (m : SM) : TS := fun D σ H => ∃ A H0 O e, ER K A H0 ow O σ H e ∧ Out (m e) (EndOk3 fr K A H0 oN oB O H D) (badS K W A H0)
abbrev tS (fr : Rm) (K : Frag) (W : WX) (ow : Ow) (m : SM) : TS := tS3 fr K W ow ow ow m
section
variable {fr : Rm} {X : Cx} [CW X] {W : WX} {ow : Ow} {a b c e : Expr} {es : List Expr} {m ma mb mc : EM} {st : Stmt} {rest body orelse : List Stmt} {u v : SM} {t : TM} {pos : Pos}
theorem Out.se {α : Type} {K : Frag} {W : WX} {A : AS} {H0 : Base} {ow : Ow} {O : OW} {σ : L2.St} {H : Hp} {e : Env} (R : ER K A H0 ow O σ H e) {r : Res α} {good : α → Prop} (h : Out r good (badS K W A H0)) : Out r good (badE K W A O σ H) := h.imp (fun _ _ x => x) fun _ _ x => x.e R
/-! ### blocks -/
theorem ss_nil : PSs X [] (tS fr X.K W ow skip) := PSs.of pss_nil fun D σ H ⟨A, H0, O, en, R, q⟩ => q O σ H R Mv.refl
theorem ss_one (h : PS X st (tS fr X.K W ow u)) : PSs X [st] (tS fr X.K W ow u) := pss_one h
theorem ss_cons (h : PS X st (tS fr X.K W ow u)) (k : PSs X rest (tS fr X.K W ow v)) : PSs X (st :: rest) (tS fr X.K W ow (seq u v)) :=
  PSs.of (pss_cons h k) fun D σ H ⟨A, H0, O, en, R, q⟩ => ⟨A, H0, O, en, R, (Out.bind q).good fun f q1 => by
    cases f with
    | next e' => exact fun O' σ' H' R' mv => ⟨A, H0, O', e', R', q1.good fun f q2 => q2.to mv⟩
    | ret d => exact q1
    | brk e' => exact q1
    | cnt e' => exact q1⟩
/-! ### assignments -/
theorem s_set {i : Nat} (h : PS X st (tAsg (tE X.K W ow m) (gName i))) (hi : ow i = false) : PS X st (tS fr X.K W ow (asg (gnm i) m)) :=
  PS.of h fun D σ H ⟨A, H0, O, en, R, q⟩ => ⟨A, H0, O, en, R, ((Out.bind q).se R).good fun d q1 v H1 s1 r1 => q1 O _ H1 ((R.to s1).set hi r1) (Mv.same s1)⟩
theorem s_gen {ts : List Nat} {g : GM} (h : PS X st (tAsg (tE X.K W ow m) (tGt X.K ow ts g))) : PS X st (tS fr X.K W ow (asg g m)) :=
  PS.of h fun D σ H ⟨A, H0, O, en, R, q⟩ => ⟨A, H0, O, en, R, ((Out.bind q).se R).good fun d q1 v H1 s1 r1 => by
    cases hg : g d en with
    | none =>
      rw [hg] at q1
      exact q1.elim
    | some e' =>
      rw [hg] at q1
      exact ⟨A, H0, O, en, d, e', R.to s1, r1, hg, fun σ' R' _ _ => q1 O σ' H1 R' (Mv.same s1)⟩⟩
theorem s_ret (h : PE X a (tE X.K W ow.off m)) : PS X (.Return (some a) pos) (tS .val X.K W ow (ret m)) :=
  PS.of (ps_ret h) fun D σ H ⟨A, H0, O, en, R, q⟩ => ⟨A, _, _, en, R.freeze, ((Out.bind (show Out (ret m en) _ (badS X.K W A ⟨H0.hp, none⟩) from q)).se R.freeze).good fun d q1 v H1 s1 r1 =>
    q1 v H1 (R.same.trans s1) (Rep.move (Mv.less fun b => .inl) _ _ r1)⟩
theorem s_if (hc : PT X a (tT X.K W ow t)) (hb : PSs X body (tS fr X.K W ow u)) (ho : PSs X orelse (tS fr X.K W ow v)) : PS X (.If a body orelse pos) (tS fr X.K W ow (ite t u v)) :=
  PS.of (ps_if hc hb ho) fun D σ H ⟨A, H0, O, en, R, q⟩ => ⟨A, H0, O, en, R, ((Out.bind q).se R).good fun k q1 H1 s1 => by
    cases k with
    | true =>
      rw [if_pos rfl] at q1 ⊢
      exact ⟨A, H0, O, en, R.to s1, q1.good fun f q2 => q2.to (Mv.same s1)⟩
    | false =>
      rw [if_neg (by decide)] at q1 ⊢
      exact ⟨A, H0, O, en, R.to s1, q1.good fun f q2 => q2.to (Mv.same s1)⟩⟩
/-! ### loops -/
theorem for_of {it : IM} {ts : List Nat} {g : GM} {D : Ends} {σ : L2.St} {H : Hp} (h : tS fr X.K W ow (for_ it g u) D σ H) : tFor (tI Mv X.K W ow it) (tGt X.K ow ts g) (tS fr X.K W ow u) D σ H := by
  obtain ⟨A, H0, O, en, R, q⟩ := h
  exact ⟨A, H0, O, en, R, ((Out.bind q).se R).good fun xs q1 J H1 s1 itm => by
    refine ⟨fun i m σ' H' => m = xs.length - i ∧ i ≤ xs.length ∧ ∃ O' e', ER X.K A H0 ow O' σ' H' e' ∧ Mv (AO A O) H1 (AO A O') H' ∧ Out (forL (forB g u) (xs.drop i) e') (EndOk fr X.K A H0 ow O H1 D) (badS X.K W A H0),
      ⟨xs.length, by simp, Nat.zero_le _, O, en, R.to s1, Mv.refl, q1.good fun f q2 => q2.to (Mv.same s1)⟩, ?_⟩
    rintro i m σ' H' ⟨rfl, hi, O', e', R', mv, q2⟩
    have im := itm i (AO A O') H' mv
    by_cases hlt : i < xs.length
    · right
      obtain ⟨hgo, hy⟩ := im.1 hlt
      refine ⟨hgo, fun σ' H' => ∃ O' e', ER X.K A H0 ow O' σ' H' e' ∧ Mv (AO A O) H1 (AO A O') H' ∧ Out (forL (forB g u) (xs.drop (i + 1)) e') (EndOk fr X.K A H0 ow O H1 D) (badS X.K W A H0), fun σ2 H2 ⟨a1, a2, a3⟩ => ⟨xs.length - (i + 1), by omega, rfl, by omega, a1, a2, a3⟩, fun x H3 y => ?_⟩
      obtain ⟨s3, d, hd, rd⟩ := hy x H3 y
      have hd' : d = xs[i] := by
        rw [List.getElem?_eq_getElem hlt] at hd
        exact (Option.some.inj hd).symm
      subst hd'
      rw [List.drop_eq_getElem_cons hlt] at q2
      simp only [forL, forB] at q2
      cases hg' : g xs[i] e' with
      | none =>
        rw [hg'] at q2
        exact q2.elim
      | some e2 =>
        rw [hg', lift_some, bind_ok] at q2
        have mv3 : Mv (AO A O) H1 (AO A O') H3 := mv.trans (Mv.same s3)
        refine ⟨A, H0, O', e', xs[i], e2, R'.to s3, rd, hg', fun σ2 R2 _ _ => ⟨A, H0, O', e2, R2, (Out.bind q2).good fun f q2 => ?_⟩⟩
        · cases f with
          | next e3 => exact fun O3 σ3 H4 R3 m3 => ⟨O3, e3, R3, mv3.trans m3, q2⟩
          | cnt e3 => exact fun O3 σ3 H4 R3 m3 => ⟨O3, e3, R3, mv3.trans m3, q2⟩
          | brk e3 =>
            have q3 : EndOk fr X.K A H0 ow O H1 D (.next e3) := q2
            exact fun O3 σ3 H4 R3 m3 => q3 O3 σ3 H4 R3 (mv3.trans m3)
          | ret d => exact q2
    · left
      have hi2 : i = xs.length := by omega
      subst hi2
      rw [List.drop_length] at q2
      have q3 : EndOk fr X.K A H0 ow O H1 D (.next e') := q2
      exact ⟨im.2 rfl, q3 O' σ' H' R' mv⟩⟩
theorem s_for {tg iter : Expr} {it : IM} {ts : List Nat} {g : GM} (hp : PassesOwn (model X.prog X.w) X.A X.env X.xe) (hc : X.calm = true) (hi : PI X tg iter (tI Mv X.K W ow it)) (hg : PG X tg (tGt X.K ow ts g)) (hb : PSs X body (tS fr X.K W ow u))
    (hs : ∀ x, foldedSetIterable iter X.env x = pure x := by intro _; rfl) : PS X (.For tg iter body [] pos) (tS fr X.K W ow (for_ it g u)) :=
  PS.of (ps_for hp hc hi hg hb hs) fun D σ H h => for_of h
/-! ### a name's own list, object -/
theorem var_ok {α : Type} {i : Nat} {en : Env} {k : D → Res α} {good : α → Prop} {bad : String → List (String × D) → Prop} (h : Out (var i en >>= k) good bad) : ∃ d, en[i]? = some (some d) ∧ Out (k d) good bad := by
  unfold var at h
  split at h
  · rename_i d hd
    exact ⟨d, hd, h⟩
  · exact h.elim
theorem sqL {K : Frag} {H : Hp} {a : Addr} {vs : List V} (h : H a = some (.lst vs)) : L2.tyV K "list" (.ref a) H := .inl ⟨rfl, vs, .inl (.inl h)⟩
theorem own_mv {K : Frag} {A : AS} {H0 : Base} {ow : Ow} {O : OW} {σ : L2.St} {H : Hp} {en : Env} (R : ER K A H0 ow O σ H en) {i : Nat} {a : Addr} (p1 : O (3 * i) = some a) {u o : HO} (e : H a = some u) (hs : ¬ still u) : Mv (AO A O) H (AO A O) (upd H a o) :=
  ⟨fun b hb => .inl hb, fun b o e3 hb => by
    rw [upd_ne]
    · exact e3
    · intro z
      subst z
      rcases hb with hb | hb
      · exact hb (.inr ⟨_, p1⟩)
      · rw [e] at e3
        cases e3
        exact hs hb⟩
/-- x.append(e) -/
theorem s_app {i : Nat} (h : PS X st (tDrop (tBM X.K "list" rAppend (tVar i) (tCons (tE X.K W ow m) tNil)))) (hi : ow i = true) : PS X st (tS fr X.K W ow (app i m)) :=
  PS.of h fun D σ H ⟨A, H0, O, en, R, q⟩ => by
    obtain ⟨l, hl, q1⟩ := var_ok q
    obtain ⟨a, p1, p2, p3⟩ := R.owns i l hl hi
    cases l with
    | lst ds =>
      obtain ⟨vs, e1, r1⟩ := p3
      refine ⟨.ref a, p2, sqL e1, A, H0, O, en, R, ((Out.bind q1).se R).good fun d q2 v H1 s1 r2 => ?_⟩
      split at q2
      · rename_i hz
        have e2 := s1 _ _ e1
        refine ⟨a, vs, v, rfl, rfl, e2, by rw [← r1.length]; exact hz, ?_⟩
        have R1 := R.to s1
        have mv := own_mv R1 p1 (o := .lst (vs ++ [v])) e2 fun z => z
        have R2 := R1.write (o := .lst (vs ++ [v])) (d' := .lst (ds ++ [d])) hi hl p1 ⟨_, upd_same, RepL.move mv _ _ ((RepL.move (Mv.same s1) _ _ r1).append (RepL.one r2))⟩
        exact q2 O σ _ R2 ((Mv.same s1).trans mv)
      · exact q2.elim
    | _ => exact q1.elim
/-- x[j] = e -/
theorem s_setL {i : Nat} {mj : EM} (h : PS X st (tAsg (tE X.K W ow m) (gSub (tVar i) (tE X.K W ow mj) (rSetX X.K)))) (hi : ow i = true) : PS X st (tS fr X.K W ow (setL i mj m)) :=
  PS.of h fun D σ H ⟨A, H0, O, en, R, q⟩ => by
    obtain ⟨l, hl, q1⟩ := var_ok q
    obtain ⟨a, p1, p2, p3⟩ := R.owns i l hl hi
    cases l with
    | lst ds =>
      obtain ⟨vs, e1, r1⟩ := p3
      refine ⟨A, H0, O, en, R, ((Out.bind q1).se R).good fun d q2 v H1 s1 r2 => ⟨.ref a, p2, A, H0, O, en, R.to s1, ((Out.bind q2).se (R.to s1)).good fun k q3 w H2 s2 r3 => ?_⟩⟩
      cases k with
      | int z =>
        simp only at q3
        split at q3
        · rename_i n hn
          have s12 := s1.trans s2
          have e2 := s12 _ _ e1
          have r3' : w = .int z := r3
          subst r3'
          refine .inl ⟨a, vs, z, n, rfl, rfl, e2, by rw [← r1.length]; exact hn, ?_⟩
          have R2 := R.to s12
          have mv := own_mv R2 p1 (o := .lst (vs.set n v)) e2 fun z => z
          have R3 := R2.write (o := .lst (vs.set n v)) (d' := .lst (ds.set n d)) hi hl p1 ⟨_, upd_same, RepL.move mv _ _ (RepL.set (Rep.move (Mv.same s2) _ _ r2) n (RepL.move (Mv.same s12) _ _ r1))⟩
          exact q3 O σ _ R3 ((Mv.same s12).trans mv)
        · exact q3.elim
      | _ => exact q3.elim
    | dic t kvs =>
      refine ⟨A, H0, O, en, R, ((Out.bind q1).se R).good fun d q2 v H1 s1 r2 => ⟨.ref a, p2, A, H0, O, en, R.to s1, ((Out.bind q2).se (R.to s1)).good fun k q3 w H2 s2 r3 => ?_⟩⟩
      split at q3
      · rename_i hk
        rw [Bool.and_eq_true, decide_eq_true_eq] at hk
        have s12 := s1.trans s2
        have R2 := R.to s12
        obtain ⟨a', p1', _, p3'⟩ := R2.owns i _ hl hi
        rw [p1] at p1'
        cases p1'
        refine .inr ⟨AO A O, t, kvs, k, d, a, rfl, .inr ⟨_, p1⟩, p3', r3, Rep.move (Mv.same s2) _ _ r2, hk.1, hk.2, fun ob g => ?_⟩
        obtain ⟨u0, hu0, hs0, _⟩ := OwnG.obj (G := fun _ => none) (d := .dic t kvs) p3'
        have mv := own_mv R2 p1 (o := ob) hu0 hs0
        have R3 := R2.write (o := ob) (d' := .dic t (putD k d kvs)) hi hl p1 g
        exact q3 O σ _ R3 ((Mv.same s12).trans mv)
      · exact q3.elim
    | _ => exact q1.elim
/-- self.f = e -/
theorem s_setF {i : Nat} {cs : List String} {f : String} (F : ∀ c ∈ cs, Cls X.K (ca X.K c) ∧ NoAttr X.K (ca X.K c) (Str.ofString f)) (h : PS X st (sFld X.K (tVar i) (tE X.K W ow m) (Str.ofString f))) (hi : ow i = true) (hn : (cs.all fun c => !inn c f) = true := by decide) : PS X st (tS fr X.K W ow (setF i cs f m)) :=
  PS.of h fun D σ H ⟨A, H0, O, en, R, q⟩ => by
    obtain ⟨l, hl, q1⟩ := var_ok q
    obtain ⟨a, p1, p2, p3⟩ := R.owns i l hl hi
    cases l with
    | ins c fs =>
      obtain ⟨dx, fvs, e1, r1⟩ := p3
      simp only at q1
      split at q1
      · rename_i hz
        obtain ⟨f1, f2⟩ := F c (by simpa using hz.1)
        have hni : inn c f = false := by simpa using List.all_eq_true.mp hn c (by simpa using hz.1)
        refine ⟨A, H0, O, en, R, ((Out.bind q1).se R).good fun d q2 v H1 s1 r2 => ⟨.ref a, p2, a, _, dx, fvs, rfl, s1 _ _ e1, f1, f2, by rw [← r1.length]; exact hz.2, ?_⟩⟩
        have R1 := R.to s1
        have mv := own_mv R1 p1 (o := .ins (ca X.K c) dx (L2.putF (Str.ofString f) v fvs)) (s1 _ _ e1) fun z => z
        have R2 := R1.write (o := .ins (ca X.K c) dx (L2.putF (Str.ofString f) v fvs)) (d' := .ins c (putF f d fs)) hi hl p1 ⟨dx, _, upd_same, (RepI.put (by rw [hni]; exact r2) (r1.move (Mv.same s1) fun t b z => ⟨z, R.kept s1 z⟩)).move mv fun t b z => ⟨z, upd_ne fun w => by
          subst w
          have := R.inj _ _ b p1 z
          cases t <;> simp at this⟩⟩
        exact q2 O σ _ R2 ((Mv.same s1).trans mv)
      · exact q1.elim
    | _ => exact q1.elim
end
end Py
/-! Calls, defs, classes. -/
namespace Py
variable [WI]
open PySem L2
instance cw_blk {X : Cx} [h : CW X] {s : Shared} {H : Hp} {scope : Scope} {cenv : PySem.Env} {fp : List Addr} : CW (X.blk s H scope cenv fp) := ⟨h.eq⟩
instance cw_of {CX : CXT} {P : Program} {w : World} [h : HW w] {K : Frag} {mg : Str → Option Value} {base : Heap} {N : List Str} {qual : Str} {scope : Scope} {f : Addr} {cd : Value} {A : Around} {outer : List PySem.Env} {s : Shared} {H : Hp} {E : XK} : CW (cxOf CX P w K mg base N qual scope f cd A outer s H E) := ⟨h.eq⟩
instance cw_nox {X : Cx} [h : CW X] : CW X.nox := ⟨h.eq⟩
instance hw_of {X : Cx} [h : CW X] : HW X.w := ⟨h.eq⟩
instance cw_suite {X : Cx} [h : CW X] {a : Addr} {pn : List (Addr × Obj)} : CW (X.suite a pn) := ⟨h.eq⟩
theorem takes0N {X : Cx} [CW X] : L2N.Takes X (fun _ _ _ _ => False) := fun u s' x => by
  obtain ⟨a, B, sI, pins, σ, H, cls, d, x1, x2, x3, x4, x5, x6, x7, x8, z⟩ := x
  exact z.elim
theorem passLN {X : Cx} [CW X] : Passes (L2N.CX X.prog X.w) X E0 := fun pins σ H s e s' I h => by
  obtain ⟨a, B, H', cls, d, x1, x2, x3, x4, x5, x6, x7, z⟩ := h
  exact z.elim
/-- where one stands: k calls deep there is room -/
structure Ctx (X : Cx) (W : WX) (k : Nat) : Prop where
  calm : X.calm = true
  tk : L2N.Takes X W
  po : PassesOwn (model X.prog X.w) X.A X.env X.xe
  hr : Room k X.A
  nd : X.N.Nodup
theorem Ctx.blk {X : Cx} [CW X] {W : WX} {k : Nat} (c : Ctx X W k) (s : Shared) (H : Hp) (scope : Scope) (cenv : PySem.Env) (fp : List Addr) : Ctx (X.blk s H scope cenv fp) W0 k := ⟨c.calm, takes0N, PassesOwn.never, c.hr, c.nd⟩
/-- what a def asks of its number of arguments -/
structure Ar (n : Nat) (fm : List D → Res D) : Prop where
  st : ∀ ds, ds.length ≠ n → fm ds = .stuck
theorem Ar.len {n : Nat} {fm : List D → Res D} {ds : List D} {good : D → Prop} {bad : String → List (String × D) → Prop} (h : Ar n fm) (q : Out (fm ds) good bad) : ds.length = n := by
  by_cases hl : ds.length = n
  · exact hl
  · rw [h.st ds hl] at q
    exact q.elim
theorem ar_fn {p n : Nat} {body : SM} : Ar p (fn p n body) := ⟨fun ds h => if_neg h⟩
/-- a def that computes m of its arguments -/
def spM (K : Frag) (p : Nat) (m : List D → Res D) : Sp := fun vs H Q E => ∃ A ds, RepL K A H ds vs ∧ ds.length = p ∧ (∀ a, A a → H a ≠ none) ∧
  Out (m ds) (fun d => ∀ v H', Same H H' → Rep K A H' d v → Q v H') (fun c fs => ∀ da H' fvs, Same H H' → H' da = some (.xd fvs) → RepF K A H' fs fvs → E (.ref (ca K c)) (some da) H')
/-- an __init__ that makes m of the arguments behind self -/
def spI (K : Frag) (p : Nat) (cls : String) (m : List D → Res D) : Sp := fun vs H Q E => ∃ A x dx H1 ds ws, vs = .ref x :: ws ∧ H = upd (upd H1 dx (.own x)) x (.ins (ca K cls) dx []) ∧ H1 x = none ∧ H1 dx = none ∧ dx ≠ x ∧ RepL K A H1 ds ws ∧ ds.length + 1 = p ∧ (∀ a, A a → H1 a ≠ none) ∧
  Out (m ds) (fun d => ∀ H', Same H1 H' → Rep K A H' d (.ref x) → Q .non H') (fun c fs => ∀ da H' fvs, Same H1 H' → H' da = some (.xd fvs) → RepF K A H' fs fvs → E (.ref (ca K c)) (some da) H')
section
variable {X : Cx} [CW X] {W : WX} {ow : Ow} {a b c e : Expr} {es : List Expr} {m ma mb mc : EM} {am : AM} {pos p : Pos} {k j n : Nat} {f C : Addr} {fd : FuncData} {ps : List Str} {x : Str} {fm : List D → Res D}
theorem call_of {E : St → XK} (hE : ∀ σ cls d H, W cls d σ H → E σ cls d H) {σ : L2.St} {H : Hp} {Q : VK} (h : tE X.K W ow (call fm am) σ H Q) (hn : Ar n fm) : tCallSD (spM X.K n fm) [] E (aE X.K W ow am) σ H Q := by
  obtain ⟨A, H0, O, en, R, q⟩ := h
  refine ⟨A, H0, O, en, R, (Out.bind q).good fun ds q1 vs H1 s1 r1 => ?_⟩
  dsimp only
  rw [List.append_nil]
  exact ⟨AO A O, ds, paired_rep r1, hn.len q1, (R.to s1).there, q1.imp (fun d _ k v H2 s2 r2 => k v H2 (s1.trans s2) r2) fun c fs z da H2 fvs s2 q2 r2 => hE _ _ _ _ (z da H2 fvs (s1.trans s2) q2 r2)⟩
theorem x_call (T : Ctx X W j) (F : FnOk X.prog X.w X.K X.mg X.base (L2N.CX X.prog X.w) k f fd ps (spM X.K n fm)) (hn : Ar n fm) (hk : k ≤ j) (hg : Gl X x) (hm : X.mg x = some (.ref f)) (hkp : PySem.W.keepIn X.K (.ref f) = true) (hb : Binds X.K fd ps [])
    (ha : PA X (e :: es) (aE X.K W ow am)) (hdb : (x == ("__debug__" : Str)) = false := by decide) (he : starEach (e :: es) X.env = (false, eval e X.env) :: starEach es X.env := by rfl) (hpl : (backTo pos (starEach es X.env)).any (·.1) = false := by rfl) :
    PE X (.Call (.Name x p) (e :: es) [] pos) (tE X.K W ow (call fm am)) :=
  PE.of (pe_callSD (E := WE W) F (T.hr.mono hk) hg hm hkp hb .nil (fun σ => L2N.passAt T.tk σ) ha hdb he hpl) fun _ _ _ h => call_of (fun _ _ _ _ z => z) h hn
/-- C(..) of an own class: what it may let out, at the slots that stand now -/
def tMk (C : Addr) (sp : Sp) (E : St → XK) (t : TA) : TE := fun σ H Q => t σ H fun vs H1 => ∀ y dy, H1 y = none → H1 dy = none → dy ≠ y → sp (.ref y :: vs) (upd (upd H1 dy (.own y)) y (.ins C dy [])) (fun v H2 => v = .non ∧ Q (.ref y) H2) (E σ)
theorem mk_run {CX : CXT} {E : XK} {sp : Sp} {pins : List (Addr × Obj)} {σ : St} {H : Hp} {s : Shared} {Q : VK} {us : List Value} {vs : List V} (M : Mk X.K C f) (F : FnOk X.prog X.w X.K X.mg X.base CX k f fd ps sp) (hr : Room (k + 1) X.A) (hb : Binds X.K fd ps [])
    (hx : PassesAt CX X σ E) (I : Inv X pins σ H s) (rv : Vals vs us)
    (h : ∀ y dy, H y = none → H dy = none → dy ≠ y → sp (.ref y :: vs) (upd (upd H dy (.own y)) y (.ins C dy [])) (fun v H2 => v = .non ∧ Q (.ref y) H2) E) : wpAny (model X.prog X.w) X.A (PySem.call (.ref C) us) (EP X pins σ Q) X.xe s := by
  have e0 := I.hok.fresh (Nat.le_refl s.heap.objs.size)
  have e1 := I.hok.fresh (Nat.le_succ s.heap.objs.size)
  have q := h _ _ e1 e0 (Nat.ne_of_lt (Nat.lt_succ_self _))
  have J := Inv.made (C := C) I
  have rw' : Vals (V.ref (s.heap.objs.size + 1) :: vs) (Value.ref (s.heap.objs.size + 1) :: us) := .cons rfl rv
  have hl : (Value.ref (s.heap.objs.size + 1) :: us).length = ps.length := rw'.length.symm.trans (F.len _ _ _ _ q)
  have b := hb _ (Value.ref (s.heap.objs.size + 1) :: us) J.kIn (by rw [List.append_nil]; exact hl)
  rw [List.append_nil] at b
  refine wpAny_call (make_map (f := f) I.kIn M.makes M.init (beq_iff_eq.mp M.fn) (codeAny_mono (F.run _ X.stack _ _ ⟨Value.ref (s.heap.objs.size + 1) :: us, []⟩ _ _ _ E (hr.make C us []) (J.env0.make C us []) b rw' q) ?_))
  rintro (u | fl) s' z
  · exact hx pins _ _ u s' J z
  · cases fl with
    | ret u =>
      obtain ⟨v, H', I3, r3, rfl, q3⟩ := J.after z
      exact ⟨r3, V.ref (s.heap.objs.size + 1), H', I3, rfl, q3⟩
    | next => exact False.elim z
    | brk => exact False.elim z
    | cont => exact False.elim z
theorem mk_pe {CX : CXT} {E : St → XK} {sp : Sp} {t : TA} (M : Mk X.K C f) (F : FnOk X.prog X.w X.K X.mg X.base CX k f fd ps sp) (hr : Room (k + 1) X.A) (hg : Gl X x) (hm : X.mg x = some (.ref C)) (hb : Binds X.K fd ps []) (hx : ∀ σ, PassesAt CX X σ (E σ))
    (ha : PA X (e :: es) t) (hdb : (x == ("__debug__" : Str)) = false := by decide) (he : starEach (e :: es) X.env = (false, eval e X.env) :: starEach es X.env := by rfl) (hpl : (backTo pos (starEach es X.env)).any (·.1) = false := by rfl) :
    PE X (.Call (.Name x p) (e :: es) [] pos) (tMk C sp E t) :=
  ⟨fun pins s σ H Q I h => wpAny_Call_Name_kw (ld_glob I hg hm (PySem.W.callWith_K (h₀ := X.base) I.ok.mod.kin M.kp (thn (ha.run pos pins s σ H _ I h) fun us s1 ⟨vs, H1, I1, r, q⟩ => ⟨I1.kIn, mk_run M F hr hb (hx σ) I1 r q⟩) he hpl) hdb)⟩
theorem x_make {cls : String} (T : Ctx X W j) (M : Mk X.K (ca X.K cls) f) (F : FnOk X.prog X.w X.K X.mg X.base (L2N.CX X.prog X.w) k f fd ps (spI X.K n cls fm)) (hn : ∀ ds, ds.length + 1 ≠ n → fm ds = .stuck)
    (hk : k + 1 ≤ j) (hg : Gl X x) (hm : X.mg x = some (.ref (ca X.K cls))) (hb : Binds X.K fd ps [])
    (ha : PA X (e :: es) (aE X.K W ow am)) (hdb : (x == ("__debug__" : Str)) = false := by decide) (he : starEach (e :: es) X.env = (false, eval e X.env) :: starEach es X.env := by rfl) (hpl : (backTo pos (starEach es X.env)).any (·.1) = false := by rfl) :
    PE X (.Call (.Name x p) (e :: es) [] pos) (tE X.K W ow (call fm am)) :=
  PE.of (mk_pe (E := WE W) M F (T.hr.mono hk) hg hm hb (fun σ => L2N.passAt T.tk σ) ha hdb he hpl) fun σ H Q ⟨A, H0, O, en, R, q⟩ => by
    refine ⟨A, H0, O, en, R, (Out.bind q).good fun ds q1 vs H1 s1 r1 y dx hy hdx hne => ?_⟩
    have sm : Same H1 (upd (upd H1 dx (.own y)) y (.ins (ca X.K cls) dx [])) := fun b o e => by
      rw [upd_ne (ne_of_none e hy), upd_ne (ne_of_none e hdx)]
      exact e
    refine ⟨AO A O, y, dx, H1, ds, vs, rfl, rfl, hy, hdx, hne, paired_rep r1, ?_, (R.to s1).there, ?_⟩
    · by_cases hl : ds.length + 1 = n
      · exact hl
      · rw [hn ds hl] at q1
        exact q1.elim
    · exact q1.imp (fun d _ k H2 s2 r2 => ⟨rfl, k _ H2 (s1.trans s2) r2⟩) fun c fs z da H2 fvs s2 q2 r2 => z da H2 fvs (s1.trans s2) q2 r2
end
/-! ### defs -/
section
variable {P : Program} {w : World} [HW w] {K : Frag} {mg : Str → Option Value} {base : Heap} {name qual : Str} {params : Arguments} {body : List Stmt} {scope : Scope} {dvs : List V} {kws : List (Str × V)} {f : Addr} {fd : FuncData} {N ps : List Str} {k : Nat} {ow oN oB : Ow} {m : SM}
theorem start_get {N : List Str} {vs : List V} {i : Nat} {v : V} (h : vs[i]? = some v) : (L2.start N vs)[i]? = some (some v) := by
  unfold L2.start
  have hi := (List.getElem?_eq_some_iff.mp h).1
  rw [List.getElem?_append_left (by simpa using hi), List.getElem?_map, h]
  rfl
abbrev WD (E : XK) : WX := fun c d _ H => E c d H
/-- a def's start -/
theorem spM_start {E : XK} {vs : List V} {H : Hp} {Q : VK} (hpre : ps.length ≤ N.length) (hx : ow.x = none) (hp : ∀ i, i < ps.length → ow i = false) (h : spM K ps.length (fn ps.length N.length m) vs H Q E) :
    tS3 .val K (WD E) ow oN oB m { nx := fun _ H' => Q .non H', rt := Q } (L2.start N vs) H := by
  obtain ⟨AV, ds, r, hl, ha, q⟩ := h
  refine ⟨AV, ⟨H, none⟩, fun _ => none, ds.map some ++ List.replicate (N.length - ps.length) none, ?_, ?_⟩
  · have hlv := r.length
    have hN : ps.length ≤ N.length := hpre
    refine ⟨?_, ha, Same.refl H, fun i d h1 h2 => ?_, fun i d h1 h2 => ?_, fun i a h => (nomatch h), fun i j a h => (nomatch h), fun a h => (nomatch h), XFact.none hx⟩
    · unfold L2.start
      simp only [List.length_append, List.length_map, List.length_replicate]
      omega
    · by_cases hi : i < ds.length
      · rw [List.getElem?_append_left (by simpa using hi), List.getElem?_map, List.getElem?_eq_getElem hi] at h1
        simp only [Option.map_some, Option.some.injEq] at h1
        subst h1
        obtain ⟨v, hv, rv⟩ := r.get (List.getElem?_eq_getElem hi)
        exact ⟨v, start_get hv, Rep.move (Mv.less fun b hb => hb.elim id fun ⟨_, z⟩ => nomatch z) _ _ rv⟩
      · rw [List.getElem?_append_right (by simpa using hi)] at h1
        rw [List.getElem?_replicate] at h1
        split at h1 <;> cases h1
    · by_cases hi : i < ds.length
      · rw [hp i (by omega)] at h2
        cases h2
      · rw [List.getElem?_append_right (by simpa using hi)] at h1
        rw [List.getElem?_replicate] at h1
        split at h1 <;> cases h1
  · unfold fn at q
    rw [if_pos hl] at q
    refine (Out.bind q).imp (fun fl _ q => ?_) fun c fs q => ?_
    · cases fl with
      | next e' => exact fun O' σ' H' R' _ => q .non H' R'.same rfl
      | ret d => exact fun v H' s' r' => q v H' s' r'
      | brk e' => exact q.elim
      | cnt e' => exact q.elim
    · exact fun σ' da H' fvs s' q' r' => q da H' fvs s' q' r'
theorem pre_le {N ps : List Str} (h : N.take ps.length = ps) : ps.length ≤ N.length := by
  have h2 := congrArg List.length h
  rw [List.length_take] at h2
  omega
/-- a def whose body computes m -/
theorem fn_ok (F : FunD K name qual params body scope dvs kws f fd) (S : FnScope N ps scope) (hx : ow.x = none) (hp : ∀ i, i < ps.length → ow i = false)
    (hb : ∀ (cdv : Value) (A : Around) (outer : List PySem.Env) (s : Shared) (H : Hp) (E : XK), Ctx (cxOf (L2N.CX P w) P w K mg base N qual scope f cdv A outer s H E) (WD E) k →
      PSs (cxOf (L2N.CX P w) P w K mg base N qual scope f cdv A outer s H E) body (tS3 .val K (WD E) ow oN oB m)) :
    FnOk P w K mg base (L2N.CX P w) (k + 1) f fd ps (spM K ps.length (fn ps.length N.length m)) := by
  refine F.ok S (fun vs H Q E ⟨A, ds, r, h, _⟩ => r.length.symm.trans h) (fun cdv A outer s H vs Q E hr h => ?_)
  exact ⟨tS3 .val K (WD E) ow oN oB m, hb cdv A outer s H E ⟨rfl, L2N.takes_of rfl rfl rfl rfl, passes_of rfl, hr, S.nd⟩, spM_start (pre_le S.pre) hx hp h⟩
/-- an __init__ whose body fills self, which stands in slot 0 -/
theorem init_ok {cls : String} (F : FunD K name qual params body scope dvs kws f fd) (S : FnScope N ps scope) (hox : ow.x = none) (h0 : ow 0 = true) (hp0 : 0 < ps.length) (hp : ∀ i, 0 < i → i < ps.length → ow i = false)
    (hb : ∀ (cdv : Value) (A : Around) (outer : List PySem.Env) (s : Shared) (H : Hp) (E : XK), Ctx (cxOf (L2N.CX P w) P w K mg base N qual scope f cdv A outer s H E) (WD E) k →
      PSs (cxOf (L2N.CX P w) P w K mg base N qual scope f cdv A outer s H E) body (tS .val K (WD E) ow m)) :
    FnOk P w K mg base (L2N.CX P w) (k + 1) f fd ps (spI K ps.length cls (made ps.length N.length cls m)) := by
  refine F.ok S (fun vs H Q E ⟨A, x, dx, H1, ds, ws, h1, _, _, _, _, r, h, _⟩ => by rw [h1, List.length_cons, ← r.length]; exact h) (fun cdv A outer s H vs Q E hr h => ?_)
  obtain ⟨AV, x, dx, H1, ds, ws, rfl, hH, hx, hdx, hne, r, hl, ha, q⟩ := h
  have sd : Same H1 (upd H1 dx (.own x)) := fun b o e => by
    rw [upd_ne (ne_of_none e hdx)]
    exact e
  have hx2 : upd H1 dx (.own x) x = none := by
    rw [upd_ne fun z => hne z.symm]
    exact hx
  have s2 : Same (upd H1 dx (.own x)) H := by
    rw [hH]
    exact new_same hx2
  have s1 : Same H1 H := sd.trans s2
  refine ⟨tS .val K (WD E) ow m, hb cdv A outer s H E ⟨rfl, L2N.takes_of rfl rfl rfl rfl, passes_of rfl, hr, S.nd⟩, AV, ⟨upd H1 dx (.own x), some x⟩, fun i => if i = 0 then some x else none, (some (.ins cls []) :: ds.map some) ++ List.replicate (N.length - ps.length) none, ?_, ?_⟩
  · have hlv := r.length
    have hN : ps.length ≤ N.length := by
      have := S.pre
      have h2 := congrArg List.length this
      rw [List.length_take] at h2
      omega
    have nx : ∀ i a, (if i = 0 then some x else none) = some a → i = 0 ∧ a = x := fun i a h => by
      by_cases hi : i = 0
      · rw [if_pos hi] at h
        cases h
        exact ⟨hi, rfl⟩
      · rw [if_neg hi] at h
        cases h
    have mv : Mv AV H1 (AO AV fun i => if i = 0 then some x else none) H := ⟨fun b hb => by
      rcases hb with hb | ⟨i, hb⟩
      · exact .inl hb
      · rw [(nx i b hb).2]
        exact .inr hx, fun b o e _ => s1 b o e⟩
    refine ⟨?_, fun b hb => ne_none s1 (ha b hb), s2, fun i d h1 h2 => ?_, fun i d h1 h2 => ?_, fun i a h => ?_, fun i j a h h' => (nx i a h).1.trans (nx j a h').1.symm, fun a h => ?_, XFact.none hox⟩
    · unfold L2.start
      simp only [List.length_append, List.length_map, List.length_replicate, List.length_cons]
      omega
    · cases i with
      | zero =>
        rw [h0] at h2
        cases h2
      | succ i =>
        by_cases hi : i < ds.length
        · rw [List.getElem?_append_left (by simpa using hi), List.getElem?_cons_succ, List.getElem?_map, List.getElem?_eq_getElem hi] at h1
          simp only [Option.map_some, Option.some.injEq] at h1
          subst h1
          obtain ⟨v, hv, rv⟩ := r.get (List.getElem?_eq_getElem hi)
          exact ⟨v, start_get (by simpa using hv), Rep.move mv _ _ rv⟩
        · rw [List.getElem?_append_right (by simpa using hi)] at h1
          rw [List.getElem?_replicate] at h1
          split at h1 <;> cases h1
    · cases i with
      | zero =>
        simp only [List.cons_append, List.getElem?_cons_zero, Option.some.injEq] at h1
        subst h1
        refine ⟨x, rfl, start_get rfl, dx, [], ?_, rfl⟩
        rw [hH]
        exact upd_same
      | succ i =>
        by_cases hi : i < ds.length
        · rw [hp (i + 1) (by omega) (by omega)] at h2
          cases h2
        · rw [List.getElem?_append_right (by simpa using hi)] at h1
          rw [List.getElem?_replicate] at h1
          split at h1 <;> cases h1
    · obtain ⟨_, rfl⟩ := nx i a h
      refine ⟨hx2, ?_, fun z => ha a z hx⟩
      rw [hH, upd_same]
      exact fun z => nomatch z
    · cases h
      rfl
  · unfold made at q
    rw [if_pos hl] at q
    refine (Out.bind q).imp (fun fl _ q => ?_) fun c fs q => ?_
    · cases fl with
      | next e' =>
        refine fun O' σ' H' R' _ => ?_
        cases e' with
        | nil => exact q.elim
        | cons d0 r0 =>
          cases d0 with
          | none => exact q.elim
          | some d1 =>
            cases d1 with
            | ins c fs =>
              have q2 : ∀ H', Same H1 H' → Rep K AV H' (.ins c fs) (.ref x) → Q .non H' := q
              refine q2 H' (sd.trans R'.same) ?_
              have hpin : O' 0 = some x := R'.pin x rfl
              obtain ⟨a, p1, p2, dx', fvs, p3, p4⟩ := R'.owns 0 (.ins c fs) rfl h0
              rw [hpin] at p1
              cases p1
              simp only [Rep]
              exact ⟨x, dx', fvs, rfl, fun z => ha x z hx, p3, p4.rep (Mv.less fun b => .inl) fun t b z => (R'.fresh _ b z).2.2⟩
            | _ => exact q.elim
      | ret d => exact q.elim
      | brk e' => exact q.elim
      | cnt e' => exact q.elim
    · exact fun σ' da H' fvs s' q' r' => q da H' fvs (sd.trans s') q' r'
end
end Py
/-! enumerate over tuples and lists. -/
namespace PySem
open Builtin
theorem py_en_new {v : Value} {o : Obj} {H : Heap → Prop} (B : Begins v o H) :
    Meets (Builtin.«enumerate.__new__» ⟨[.type "enumerate", v], []⟩) (fun _ R s => H s.heap ∧
      R (.ok (.ret (.ref (s.heap.push o).objs.size))) { s with heap := (s.heap.push o).push { cls := .type "enumerate", data := .fields #[.none, .bool false, .ref s.heap.objs.size, rawInt 0, .none, .none] } }) :=
  .of_wp fun prog w A R s h => by
    obtain ⟨hp, g, d, tk, os⟩ := s
    obtain ⟨h1, h⟩ := h
    have hsub := sub_enumerate
    have iter1 : ∀ {A' : Around} {E : Value → Shared → Prop} {Q : Value → Shared → Prop}, Q (.ref hp.objs.size) ⟨hp.push o, g, d, tk, os⟩ → wpAny (model prog w) A' (pyIter v) Q E ⟨hp, g, d, tk, os⟩ :=
      fun q => B.iter prog w _ _ ⟨hp, g, d, tk, os⟩ _ h1 q
    wp_walk using iter1
    refine wpAny_stack_any fun st => wpAny_pure ?_
    split
    · rename_i c _ _ _ _ _
      cases (c == Value.type "enumerate")
      · wp_walk using iter1
        exact ⟨_, rfl, h⟩
      · wp_walk using iter1
        exact ⟨_, rfl, h⟩
    · wp_walk using iter1
      exact ⟨_, rfl, h⟩
theorem py_en_call {prog : Program} {w : World} {A : Around} {E : Value → Shared → Prop} {s : Shared} {v : Value} {o : Obj} {H : Heap → Prop} {Q : Value → Shared → Prop} (B : Begins v o H) (h1 : H s.heap)
    (h : ∀ h', IsEnum h' (s.heap.objs.size + 1) s.heap.objs.size 0 .none → h'.get? s.heap.objs.size = some o → h'.objs.size = s.heap.objs.size + 2 →
      (∀ b o, s.heap.get? b = some o → h'.get? b = some o) → Q (.ref (s.heap.objs.size + 1)) { s with heap := h' }) :
    wpAny (model prog w) A (call (.type "enumerate") [v]) Q E s := by
  refine callType_new F.called_enumerate (by decide) (F.typeCall_enumerate_1 _) (F.newCall_enumerate_1 _) (fun obj => F.args_object_init_2 obj _) F.entry_enumerate_new (py_en_new B) ⟨h1, ?_⟩
  have hz : (s.heap.push o).objs.size = s.heap.objs.size + 1 := Heap.size_push ..
  show _ ∧ _
  rw [hz]
  have he : IsEnum ((s.heap.push o).push { cls := .type "enumerate", data := .fields #[.none, .bool false, .ref s.heap.objs.size, rawInt 0, .none, .none] }) (s.heap.objs.size + 1) s.heap.objs.size 0 .none := by
    have this := Heap.get?_push_size (s.heap.push o) (o := { cls := .type "enumerate", data := .fields #[.none, .bool false, .ref s.heap.objs.size, rawInt 0, .none, .none] }) rfl
    rw [hz] at this
    exact this
  exact ⟨⟨_, he, rfl⟩, h _ he (Heap.get?_push_of_some _ (Heap.get?_push_size _ B.free)) (by rw [Heap.size_push, hz]) fun b o x => Heap.get?_push_of_some _ (Heap.get?_push_of_some _ x)⟩
end PySem
namespace Py
variable [WI]
open PySem L2
/-- enumerate over the tuple at a -/
def Iet (K : Frag) (a : Addr) : It :=
  ⟨fun i H => ∃ (xs : List V) (x : V), SqT K H a xs ∧ xs[i]? = some x, fun i H v H' => ∃ T x, v = .ref T ∧ H T = none ∧ H' = upd H T (.tup [.int (i : Nat), x]) ∧ ∀ xs, SqT K H a xs → xs[i]? = some x, fun i H => ∃ xs : List V, SqT K H a xs ∧ i = xs.length⟩
theorem turn_enumT {P : Program} {w : World} {K : Frag} {elts : List Expr} {kk : Nat} {tpos : Pos} (a e it : Addr) :
    Turn P w K (.Tuple elts kk tpos) (Iet K a) [e, it] e (fun i h => (∃ old, IsEnum h e it ((i : Nat) : Int) old) ∧ h.IsTupleIter it a i ∧ e ≠ it ∧ a ≠ it ∧ a ≠ e) where
  mem := by simp
  obj := fun i h st b hb => by
    obtain ⟨⟨old, he⟩, ⟨o, ho, hc, hd⟩, _⟩ := st
    rcases (by simpa using hb : b = e ∨ b = it) with z | z
    · subst z
      exact ⟨_, he, fun v q => nomatch q⟩
    · subst z
      exact ⟨o, ho, fun v q => by rw [hd] at q; cases q⟩
  keep := fun i h h' st k => by
    obtain ⟨⟨old, he⟩, hi, n1, n2, n3⟩ := st
    exact ⟨⟨old, k e (by simp) _ he⟩, hi.at fun o q => k it (by simp) o q, n1, n2, n3⟩
  item := by
    intro X hP hw hK hc i pins s σ H E I hf st hg
    subst hP hw hK
    obtain ⟨⟨old, he⟩, hit, n1, n2, n3⟩ := st
    obtain ⟨xs, x, hq, hx⟩ := hg
    obtain ⟨its, rv, tp, hz⟩ := I.tuple hq
    obtain ⟨u, hu, ru⟩ := rv.get hx
    have hel : e < s.heap.objs.size := Heap.lt_size he
    have hil : it < s.heap.objs.size := by
      obtain ⟨_, q, _⟩ := hit
      exact Heap.lt_size q
    have hi : i < its.toArray.size := by
      have := (List.getElem?_eq_some_iff.mp hu).1
      simpa using this
    have htp : s.heap.IsTuple a its.toArray := tp
    refine wpAny_pyNext_enum_itemD (Draws.tuple (prog := X.prog) (w := X.w) (A := X.A.in1) (I.ok.hd hc) it a n2 its.toArray) he (show _ ∧ _ from ⟨hit, htp⟩) hi n1 (by simp [n1, n3.symm]) fun x' h' tk hP' ho hst' hT hsz hk => ?_
    have hxu : x' = u := by
      have q1 : its[i]? = some x' := by simpa using hP'
      rw [hu] at q1
      exact (Option.some.inj q1).symm
    subst hxu
    refine ⟨_, rfl, wpAny_letOwnedTupleGo_enum (s := { s with heap := h', toks := tk + 1 }) ho fun h'' he' sb => ?_⟩
    have hT2 : h''.get? s.heap.objs.size = some { cls := .type "tuple", data := .seq #[.int i tk, x'] } := (sb.2 _ (Nat.ne_of_gt hel)).trans hT
    have new : ObjOk X.prog X.w (upd H s.heap.objs.size (.tup [.int (i : Nat), x])) h'' s.heap.objs.size (.tup [.int (i : Nat), x]) :=
      ⟨by show 2 ≤ sizeLine; decide, [.int i tk, x'], .cons ⟨_, rfl⟩ (.cons ru .nil), ⟨_, hT2, rfl, _, rfl⟩⟩
    have I1 : Inv X pins σ (upd H s.heap.objs.size (.tup [.int (i : Nat), x])) { s with heap := h'', toks := tk + 1 } :=
      I.turnedNew (ch := [e, it]) (fun b ob hb q => (sb.2 b fun z => hb (by simp [z])).trans (hk b ob (fun z => hb (by simp [z])) (fun z => hb (by simp [z])) q)) hf (Nat.le_refl _) new
    refine ⟨.ref s.heap.objs.size, _, I1, rfl, ⟨_, x, rfl, I.hok.fresh (Nat.le_refl _), rfl, fun ys hy => by rw [I.tuple_inj hy hq]; exact hx⟩, ⟨⟨x', ?_⟩, hst'.1.at fun o q => (sb.2 it n1.symm).trans q, n1, n2, n3⟩, fun b hb => ?_⟩
    · have e1 : ((i + 1 : Nat) : Int) = (i : Int) + 1 := by omega
      rw [e1]
      exact he'
    · have hb' : b < s.heap.objs.size := by
        rcases (by simpa using hb : b = e ∨ b = it) with z | z
        · subst z
          exact hel
        · subst z
          exact hil
      rw [upd_ne (Nat.ne_of_lt hb')]
      exact (hf b hb).1
  done := by
    intro X hP hw hK hc i pins s σ H E I hf st hg
    subst hP hw hK
    obtain ⟨⟨old, he⟩, hit, n1, n2, n3⟩ := st
    obtain ⟨xs, hq, hx⟩ := hg
    obtain ⟨its, rv, tp, hz⟩ := I.tuple hq
    obtain ⟨f0, f1, f2, f3, f4, f5⟩ := hf it (by simp)
    have hl := rv.length
    have htp : s.heap.IsTuple a its.toArray := tp
    have hi2 : i = its.toArray.size := by
      rw [List.size_toArray]
      omega
    subst hi2
    exact wpAny_pyNext_enum_endD (Draws.tuple (prog := X.prog) (w := X.w) (A := X.A.in1) (I.ok.hd hc) it a n2 its.toArray) he (show _ ∧ _ from ⟨hit, htp⟩) fun h' eb => ⟨rfl, I.turned (t' := s.toks) (fun b o hb q => eb b o hb q) f0 f1 f3 f4 f5⟩
  self := fun A i s Q E st h => by
    obtain ⟨⟨_, he⟩, _⟩ := st
    exact wpAny_pyIter_enum he h
section
variable {X : Cx} [CW X] {W : WX} {ow : Ow} {a b c e : Expr} {es elts : List Expr} {m ma mb mc : EM} {pos p tpos : Pos} {kk : Nat}
def iEnumE (K : Frag) (ta : TA) : TI := fun σ H R => ta σ H fun vs H1 => ∃ a, vs = [.ref a] ∧ ((∃ xs, SqL K H1 a xs ∧ R (Ite K a) H1) ∨ ∃ xs, SqT K H1 a xs ∧ R (Iet K a) H1)
theorem pi_enumE {ta : TA} (hg : Gl X "enumerate") (hm : X.mg "enumerate" = none) (ha : PA X [e] ta) (hs : starEach [e] X.env = [(false, eval e X.env)] := by rfl) : PI X (.Tuple elts kk tpos) (.Call (.Name "enumerate" p) [e] [] pos) (iEnumE X.K ta) := by
  refine ⟨fun pins s σ H R I h => ?_⟩
  refine PyProof.Rows.Call_ (ld_blt I hg hm PyProof.Rows.boot_enumerate (PyProof.Rows.callWith_type1 (thn (ha.run pos pins s σ H _ I h) fun us s1 ⟨vs, H1, I1, r1, q1⟩ => ?_) hs rfl))
  obtain ⟨a, ex, q⟩ := q1
  subst ex
  obtain ⟨u, rfl, ru⟩ := vals1 r1
  cases ru
  have fin : ∀ b ∈ [s1.heap.objs.size + 1, s1.heap.objs.size], FpOk X pins H1 b := fun b hb => by
    have hle : s1.heap.objs.size ≤ b := by
      rcases (by simpa using hb : b = s1.heap.objs.size + 1 ∨ b = s1.heap.objs.size) with z | z
      · rw [z]
        exact Nat.le_add_right _ _
      · rw [z]
        exact Nat.le_refl _
    exact I1.fpOk hle (I1.hok.fresh hle)
  rcases q with ⟨xs, hq, q⟩ | ⟨xs, hq, q⟩
  · obtain ⟨its, rv, tp, hz⟩ := I1.list hq
    refine py_en_call (begins_list a its.toArray) tp.isList fun h' he hit hsz hk => wpAny_pyIter_enum he ?_
    exact ⟨s1.heap.objs.size + 1, [s1.heap.objs.size + 1, s1.heap.objs.size], _, _, H1, rfl, I1.kept (t' := s1.toks) hk, turn_enum a (s1.heap.objs.size + 1) s1.heap.objs.size, ⟨⟨.none, he⟩, ⟨_, hit, rfl, rfl⟩, Nat.succ_ne_self _⟩, fin, q⟩
  · obtain ⟨its, rv, tp, hz⟩ := I1.tuple hq
    have hlt : a < s1.heap.objs.size := tp.lt
    refine py_en_call (begins_tuple a its.toArray) tp fun h' he hit hsz hk => wpAny_pyIter_enum he ?_
    exact ⟨s1.heap.objs.size + 1, [s1.heap.objs.size + 1, s1.heap.objs.size], _, _, H1, rfl, I1.kept (t' := s1.toks) hk, turn_enumT a (s1.heap.objs.size + 1) s1.heap.objs.size, ⟨⟨.none, he⟩, ⟨_, hit, rfl, rfl⟩, Nat.succ_ne_self _, Nat.ne_of_lt hlt, Nat.ne_of_lt (Nat.lt_succ_of_lt hlt)⟩, fin, q⟩
theorem enumL_get : ∀ {ds : List D} {n i : Nat} {d : D}, ds[i]? = some d → (enumL n ds)[i]? = some (.tup [.int ((n + i : Nat) : Int), d])
  | [], _, _, _, h => by simp at h
  | x :: ds, n, 0, d, h => by
    simp at h
    subst h
    rfl
  | x :: ds, n, i + 1, d, h => by
    simp only [enumL, List.getElem?_cons_succ]
    rw [enumL_get (n := n + 1) (by simpa using h)]
    rw [Nat.add_right_comm]
    rfl
theorem enumL_len : ∀ (ds : List D) (n : Nat), (enumL n ds).length = ds.length
  | [], _ => rfl
  | x :: ds, n => by
    simp only [enumL, List.length_cons]
    rw [enumL_len ds]
theorem enum_item {K : Frag} {A : AS} {H : Hp} {T : Addr} {i : Nat} {d : D} {v : V} (hn : H T = none) (r : Rep K A H d v) : Same H (upd H T (.tup [.int (i : Nat), v])) ∧ Rep K A (upd H T (.tup [.int (i : Nat), v])) (.tup [.int ((0 + i : Nat) : Int), d]) (.ref T) := by
  refine ⟨new_same hn, new_tup ?_ hn⟩
  rw [Nat.zero_add]
  simp only [RepL]
  exact ⟨_, _, rfl, rfl, v, [], rfl, r, rfl⟩
theorem itm_enumT {K : Frag} {A : AS} {H : Hp} {a : Addr} {ds : List D} {vs : List V} (q : SqT K H a vs) (r : RepL K A H ds vs) : Itm Mv K A (Iet K a) (enumL 0 ds) H := fun i A2 H2 m => by
  have q2 := SqT.move m q
  have r2 := RepL.move m ds vs r
  rw [enumL_len]
  refine ⟨fun hi => ?_, fun hi => ⟨vs, q2, by rw [← r.length]; exact hi⟩⟩
  obtain ⟨v, hv, rv⟩ := r2.get (i := i) (List.getElem?_eq_getElem hi)
  refine ⟨⟨vs, v, q2, hv⟩, fun x H3 ⟨T, x', e1, hn, e2, k⟩ => ?_⟩
  subst e1 e2
  have := k vs q2
  rw [hv] at this
  cases this
  obtain ⟨s1, r1⟩ := enum_item (i := i) hn rv
  exact ⟨s1, _, enumL_get (List.getElem?_eq_getElem hi), r1⟩
theorem itm_enumL {M : MvT} {K : Frag} {A : AS} {H : Hp} {a : Addr} {ds : List D} {vs : List V} (hM : ∀ A2 H2, M A H A2 H2 → Mv A H A2 H2 ∧ Rd H2 a (.lst vs)) (r : RepL K A H ds vs) : Itm M K A (Ite K a) (enumL 0 ds) H := fun i A2 H2 m => by
  obtain ⟨mv, rd⟩ := hM A2 H2 m
  have q2 : SqL K H2 a vs := .inl rd
  have r2 := RepL.move mv ds vs r
  rw [enumL_len]
  refine ⟨fun hi => ?_, fun hi => ⟨vs, q2, by rw [← r.length]; exact Nat.le_of_eq hi.symm⟩⟩
  obtain ⟨v, hv, rv⟩ := r2.get (i := i) (List.getElem?_eq_getElem hi)
  refine ⟨⟨vs, v, q2, hv⟩, fun x H3 ⟨T, x', e1, hn, e2, k⟩ => ?_⟩
  subst e1 e2
  have := k vs q2
  rw [hv] at this
  cases this
  obtain ⟨s1, r1⟩ := enum_item (i := i) hn rv
  exact ⟨s1, _, enumL_get (List.getElem?_eq_getElem hi), r1⟩
theorem i_enum (hg : Gl X "enumerate") (hm : X.mg "enumerate" = none) (ha : PE X a (tE X.K W ow ma)) (hs : starEach [a] X.env = [(false, eval a X.env)] := by rfl) : PI X (.Tuple elts kk tpos) (.Call (.Name "enumerate" p) [a] [] pos) (tI Mv X.K W ow (ienum ma)) :=
  PI.of (pi_enumE hg hm (pa_cons ha pa_nil hs) hs) fun σ H R' ⟨A, H0, O, en, R, q⟩ => ⟨A, H0, O, en, R, (Out.bind (Out.bind q)).good fun d q1 v H1 s1 r1 => by
    cases d with
    | lst xs =>
      obtain ⟨p, vs, rfl, n, h, r⟩ := (by simpa only [Rep] using r1 : ∃ a vs, v = .ref a ∧ ¬ AO A O a ∧ Rd H1 a (.lst vs) ∧ RepL X.K (AO A O) H1 xs vs)
      exact ⟨p, rfl, .inl ⟨vs, .inl h, q1 _ H1 s1 (itm_enumL (fun A2 H2 m => ⟨m, (Rd.move m h n).1⟩) r)⟩⟩
    | tup xs =>
      obtain ⟨p, vs, rfl, h, r⟩ := (by simpa only [Rep] using r1 : ∃ a vs, v = .ref a ∧ SqT X.K H1 a vs ∧ RepL X.K (AO A O) H1 xs vs)
      exact ⟨p, rfl, .inr ⟨vs, h, q1 _ H1 s1 (itm_enumT h r)⟩⟩
    | _ => exact q1.elim⟩
end
end Py
/-! Comprehensions as expressions, what the module's names stand for, the ends. -/
namespace Py
variable [WI]
open PySem L2
theorem f_le {K : Frag} {W : WX} {ow : Ow} {m : EM} {σ : L2.St} {H : Hp} {Q : VK} (h : tE K W ow m σ H Q) : tF K W ow m σ H Q := by
  obtain ⟨A, H0, O, en, R, q⟩ := h
  refine ⟨A, H0, O, en, R, q.good fun d k a H' n s r => k (.ref a) H' s ?_⟩
  have na : ¬ AO A O a := fun z => R.there a z n
  have mv : Mv (fun b => AO A O b ∨ b = a) H' (AO A O) H' := Mv.less fun b x => .inl x
  exact r.rep mv na
section
variable {X : Cx} [CW X] {W : WX} {ow : Ow} {a b c e : Expr} {es : List Expr} {m ma mb mc : EM} {am : AM} {pos p spos : Pos} {k j n : Nat}
variable {elt tg iter : Expr} {ifs : List Expr} {scope : Scope} {own : List (Str × Nat)} {it : IM} {g : GM} {t : TM} {me : EM} {ts : List Nat}
theorem ts_nil : PTs X [] (tT X.K W ow yes) := ⟨fun pins s σ H Q I ⟨A, H0, O, en, R, q⟩ => pts_nil.run pins s σ H Q I (q H (Same.refl H))⟩
theorem ts_one (h : PT X c (tT X.K W ow t)) : PTs X [c] (tT X.K W ow t) := pts_one h
/-- [elt for tg in iter if ..] -/
theorem f_lc (T : Ctx X W j) (hi : PI X tg iter (tI Gr X.K W ow it)) (ok : BlkOk X.N X.env.scope scope own)
    (hg : ∀ (s : Shared) (H : Hp) (C : Addr) (cl : List (Str × Addr)) (fp : List Addr), Ctx (X.blk s H scope (compEnvC scope cl C X.env) fp) W0 j → PG (X.blk s H scope (compEnvC scope cl C X.env) fp) tg (tGt X.K ow ts g))
    (ht : ∀ (s : Shared) (H : Hp) (C : Addr) (cl : List (Str × Addr)) (fp : List Addr), Ctx (X.blk s H scope (compEnvC scope cl C X.env) fp) W0 j → PTs (X.blk s H scope (compEnvC scope cl C X.env) fp) ifs (tT X.K W0 ow t))
    (he : ∀ (s : Shared) (H : Hp) (C : Addr) (cl : List (Str × Addr)) (fp : List Addr), Ctx (X.blk s H scope (compEnvC scope cl C X.env) fp) W0 j → PE (X.blk s H scope (compEnvC scope cl C X.env) fp) elt (tE X.K W0 ow me))
    (hts : ∀ i ∈ ts, i ∈ own.map (·.2)) (hx : ow.x = none := by rfl) (hs : ∀ x, foldedSetIterable iter X.env x = pure x := by intro _; rfl) :
    PE X (.ListComp elt [⟨tg, iter, ifs, 0⟩] scope pos) (tF X.K W ow (lcE it (own.map (·.2)) g t me)) :=
  PE.of (pe_lc T.calm T.nd hi ok (fun s H C cl fp => hg s H C cl fp (T.blk ..)) (fun s H C cl fp => ht s H C cl fp (T.blk ..)) (fun s H C cl fp => he s H C cl fp (T.blk ..)) hs) fun _ _ _ h => lc_of hx hts h
/-- y = [..], y a plain local -/
theorem s_lc0 {i : Nat} {y : Str} {py : Pos} (T : Ctx X W j) (hy : X.N[i]? = some y) (hyl : X.env.scope.names.lookup y = some .local)
    (hsw : swapsWith (.ListComp elt [⟨tg, iter, ifs, 0⟩] scope pos) (some (.Name y py)) spos.line X.env = pure true) (hi : PI X tg iter (tI Gr X.K W ow it)) (ok : BlkOk X.N X.env.scope scope own)
    (hg : ∀ (s : Shared) (H : Hp) (C : Addr) (cl : List (Str × Addr)) (fp : List Addr), Ctx (X.blk s H scope (compEnvC scope cl C X.env) fp) W0 j → PG (X.blk s H scope (compEnvC scope cl C X.env) fp) tg (tGt X.K ow ts g))
    (ht : ∀ (s : Shared) (H : Hp) (C : Addr) (cl : List (Str × Addr)) (fp : List Addr), Ctx (X.blk s H scope (compEnvC scope cl C X.env) fp) W0 j → PTs (X.blk s H scope (compEnvC scope cl C X.env) fp) ifs (tT X.K W0 ow t))
    (he : ∀ (s : Shared) (H : Hp) (C : Addr) (cl : List (Str × Addr)) (fp : List Addr), Ctx (X.blk s H scope (compEnvC scope cl C X.env) fp) W0 j → PE (X.blk s H scope (compEnvC scope cl C X.env) fp) elt (tE X.K W0 ow me))
    (hts : ∀ i ∈ ts, i ∈ own.map (·.2)) (hx : ow.x = none := by rfl) (hs : ∀ x, foldedSetIterable iter X.env x = pure x := by intro _; rfl) :
    PS X (.Assign [.Name y py] (.ListComp elt [⟨tg, iter, ifs, 0⟩] scope pos) spos) (tAsg (tF X.K W ow (lcE it (own.map (·.2)) g t me)) (gName i)) :=
  PS.of (ps_setLc T.calm T.nd hy hyl hsw hi ok (fun s H C cl fp => hg s H C cl fp (T.blk ..)) (fun s H C cl fp => ht s H C cl fp (T.blk ..)) (fun s H C cl fp => he s H C cl fp (T.blk ..)) hs) fun _ _ _ h => lc_of hx hts h
theorem s_f {st : Stmt} {i : Nat} (h : PS X st (tAsg (tF X.K W ow m) (gName i))) : PS X st (tAsg (tE X.K W ow m) (gName i)) := PS.of h fun _ _ _ q => f_le q
/-! ### is True -/
end
/-! ### a try that runs through -/
theorem Ctx.nox {X : Cx} [CW X] {W : WX} {k : Nat} (c : Ctx X W k) : Ctx X.nox W0 k := ⟨c.calm, takes0N, PassesOwn.never, c.hr, c.nd⟩
section
variable {fr : Rm} {X : Cx} [CW X] {W : WX} {ow : Ow} {body : List Stmt} {u : SM} {h0 : ExceptHandler} {hs : List ExceptHandler} {pos : Pos} {j : Nat}
theorem s_thru (T : Ctx X W j) (hb : Ctx X.nox W0 j → PSs X.nox body (tS fr X.K W0 ow u)) : PS X (.Try body (h0 :: hs) [] [] pos) (tS fr X.K W ow (thru u)) :=
  PS.of (ps_try_thru0 (hb T.nox)) fun D σ H ⟨A, H0, O, en, R, q⟩ => ⟨A, H0, O, en, R, by
    have q1 : Out (noexc (u en)) (EndOk fr X.K A H0 ow O H D) (badS X.K W A H0) := q
    exact q1.noexc⟩
end
/-! ### what the module's names stand for -/
/-- the name x calls a def of n parameters that computes fm -/
def CallOk (P : Program) (w : World) (K : Frag) (mg : Str → Option Value) (base : Heap) (k : Nat) (x : Str) (d : He.DefD) (ps : List Str) (n : Nat) (fm : List D → Res D) : Prop := ∃ f fd, mg x = some (.ref f) ∧ PySem.W.keepIn K (.ref f) = true ∧ Binds K fd ps [] ∧ FnOk P w K mg base (L2N.CX P w) k f fd ps (spM K n fm) ∧ Ar n fm ∧ FunD K d.name d.qual d.params d.body d.scope [] [] f fd
/-- the name cls makes an instance -/
def MakeOk (P : Program) (w : World) (K : Frag) (mg : Str → Option Value) (base : Heap) (k : Nat) (cls : String) (n : Nat) (fm : List D → Res D) : Prop := ∃ f fd ps, mg (Str.ofString cls) = some (.ref (ca K cls)) ∧ Mk K (ca K cls) f ∧ Binds K fd ps [] ∧ FnOk P w K mg base (L2N.CX P w) k f fd ps (spI K n cls fm) ∧ ∀ ds, ds.length + 1 ≠ n → fm ds = .stuck
section
variable {X : Cx} [CW X] {W : WX} {ow : Ow} {e : Expr} {es : List Expr} {am : AM} {pos p : Pos} {k j n : Nat} {x : Str} {fm : List D → Res D} {d : He.DefD} {ps : List Str}
theorem x_own1 (T : Ctx X W j) (C : CallOk X.prog X.w X.K X.mg X.base k x d ps n fm) (hk : k ≤ j) (hg : Gl X x) (ha : PA X (e :: es) (aE X.K W ow am)) (hdb : (x == ("__debug__" : Str)) = false := by decide)
    (he : starEach (e :: es) X.env = (false, eval e X.env) :: starEach es X.env := by rfl) (hpl : (backTo pos (starEach es X.env)).any (·.1) = false := by rfl) : PE X (.Call (.Name x p) (e :: es) [] pos) (tE X.K W ow (call fm am)) := by
  obtain ⟨f, fd, h1, h2, h3, h4, h5, _⟩ := C
  exact x_call T h4 h5 hk hg h1 h2 h3 ha hdb he hpl
theorem x_new {cls : String} (T : Ctx X W j) (C : MakeOk X.prog X.w X.K X.mg X.base k cls n fm) (hk : k + 1 ≤ j) (hg : Gl X (Str.ofString cls)) (ha : PA X (e :: es) (aE X.K W ow am)) (hdb : (Str.ofString cls == ("__debug__" : Str)) = false := by decide)
    (he : starEach (e :: es) X.env = (false, eval e X.env) :: starEach es X.env := by rfl) (hpl : (backTo pos (starEach es X.env)).any (·.1) = false := by rfl) : PE X (.Call (.Name (Str.ofString cls) p) (e :: es) [] pos) (tE X.K W ow (call fm am)) := by
  obtain ⟨f, fd, ps, h1, h2, h3, h4, h5⟩ := C
  exact x_make T h2 h4 h5 hk hg h1 h3 ha hdb he hpl
end
/-! ### defs by the head's facts -/
section
variable {P : Program} {w : World} [HW w] {K : Frag} {mg : Str → Option Value} {base : Heap} {k : Nat} {ow oN oB : Ow} {m : SM} {name qual : Str} {params : Arguments} {body : List Stmt} {scope : Scope} {f : Addr} {N ps : List Str} {p n : Nat}
theorem def_ok {d : He.DefD} (F : ∃ fd, FunD K d.name d.qual d.params d.body d.scope [] [] f fd) (g : mg d.name = some (.ref f)) (S : FnScope N ps d.scope) (hpl : ps.length = p) (hnl : N.length = n) (hp : ∀ i, i < p → ow i = false)
    (hbind : ∀ (kV doc pm : Value) (an : Option Addr) (cdv ct : Value) (us : List Value), us.length = ps.length → bindArgs (PySem.W.fnOf d.name d.qual d.params d.body d.scope .none kV doc pm an cdv ct) ⟨us, []⟩ = pure (ps.zip us))
    (hb : ∀ (cdv : Value) (A : Around) (outer : List PySem.Env) (s : Shared) (H : Hp) (E : XK), Ctx (cxOf (L2N.CX P w) P w K mg base N d.qual d.scope f cdv A outer s H E) (WD E) k →
      PSs (cxOf (L2N.CX P w) P w K mg base N d.qual d.scope f cdv A outer s H E) d.body (tS3 .val K (WD E) ow oN oB m)) (hx : ow.x = none := by rfl) : CallOk P w K mg base (k + 1) d.name d ps p (fn p n m) := by
  obtain ⟨fd, F⟩ := F
  subst hpl hnl
  exact ⟨f, fd, g, F.kp, FunD.bindsN F hbind, fn_ok F S hx hp hb, ar_fn, F⟩
theorem ar_made {p n : Nat} {cls : String} {body : SM} : ∀ ds, ds.length + 1 ≠ p → made p n cls body ds = .stuck := fun ds h => if_neg h
theorem cls_ok {cls : String} (F : ∃ fd, FunD K name qual params body scope [] [] f fd) (g : mg (Str.ofString cls) = some (.ref (ca K cls))) (M : Mk K (ca K cls) f) (S : FnScope N ps scope) (hpl : ps.length = p) (hnl : N.length = n) (h0 : ow 0 = true) (hp0 : 0 < p) (hp : ∀ i, i < p → 0 < i → ow i = false)
    (hbind : ∀ (kV doc pm : Value) (an : Option Addr) (cdv ct : Value) (us : List Value), us.length = ps.length → bindArgs (PySem.W.fnOf name qual params body scope .none kV doc pm an cdv ct) ⟨us, []⟩ = pure (ps.zip us))
    (hb : ∀ (cdv : Value) (A : Around) (outer : List PySem.Env) (s : Shared) (H : Hp) (E : XK), Ctx (cxOf (L2N.CX P w) P w K mg base N qual scope f cdv A outer s H E) (WD E) k →
      PSs (cxOf (L2N.CX P w) P w K mg base N qual scope f cdv A outer s H E) body (tS .val K (WD E) ow m)) (hx : ow.x = none := by rfl) : MakeOk P w K mg base (k + 1) cls p (made p n cls m) := by
  obtain ⟨fd, F⟩ := F
  subst hpl hnl
  exact ⟨f, fd, ps, g, M, FunD.bindsN F hbind, init_ok F S hx h0 hp0 (fun i a b => hp i b a) hb, ar_made⟩
end
/-! ### the head's facts, tables, and one more -/
/-! ### a table of texts -/
def TabOk (K : Frag) (w : World) (mg : Str → Option Value) (x : Str) (tab : List (String × Int)) : Prop :=
  ∃ d es n, mg x = some (.ref d) ∧ KDict K w d es n ∧ ∀ z : String, ∃ r, PySem.W.nsIn K d (Str.ofString z) = some r ∧ (tab.lookup z = none → r = none) ∧ ∀ i, tab.lookup z = some i → ∃ t, r = some (.int i t)
theorem lookup_mem {z : String} {i : Int} : ∀ {tab : List (String × Int)}, tab.lookup z = some i → (z, i) ∈ tab
  | [], h => by cases h
  | (y, j) :: r, h => by
    rw [List.lookup_cons] at h
    split at h
    · rename_i e
      have e1 : z = y := by simpa using e
      cases h
      subst e1
      exact List.mem_cons_self
    · exact List.mem_cons_of_mem _ (lookup_mem h)
theorem lookup_no {z : String} : ∀ {tab : List (String × Int)}, tab.lookup z = none → ∀ q ∈ tab, q.1 ≠ z
  | [], _, q, hq => by cases hq
  | (y, j) :: r, h, q, hq => by
    rw [List.lookup_cons] at h
    split at h
    · cases h
    · rename_i e
      rcases List.mem_cons.mp hq with e1 | hq
      · subst e1
        intro e2
        have e2 : y = z := e2
        subst e2
        simp at e
      · exact lookup_no h q hq
theorem tab_keys {P : Params} : ∀ {l : List DictEntry} {ks : List Str}, l.map He.keyOf = He.keysIn P ks → ∀ e ∈ l, ∃ k t, e.key = .str k t ∧ k ∈ ks
  | [], _, _, e, he => by cases he
  | e0 :: r, [], h, _, _ => by cases h
  | e0 :: r, k :: ks, h, e, he => by
    have h1 : He.keyOf e0 :: r.map He.keyOf = some (k, PyData.keyHash P k) :: He.keysIn P ks := h
    injection h1 with h2 h3
    rcases List.mem_cons.mp he with e1 | he
    · subst e1
      unfold He.keyOf at h2
      split at h2
      · rename_i x t q
        have h4 := Option.some.inj h2
        obtain ⟨h5, h6⟩ := Prod.mk.inj h4
        exact ⟨x, t, q, by rw [h5]; exact List.mem_cons_self⟩
      · cases h2
    · obtain ⟨k1, t, e1, m⟩ := tab_keys h3 e he
      exact ⟨k1, t, e1, List.mem_cons_of_mem _ m⟩
theorem tab_ok {K : Frag} {w : World} {mg : Str → Option Value} {x : Str} {tab : List (String × Int)} (hraw : He.dicW K (He.ga K x) = some (He.keysIn w.params (tab.map fun q => Str.ofString q.1))) (hv : He.valsB K (He.ga K x) (tab.map fun q => (Str.ofString q.1, He.Dv.int q.2)) = true) (hg : mg x = some (.ref (He.ga K x))) : TabOk K w mg x tab := by
  obtain ⟨es, n, D⟩ := He.dicW_ok hraw
  refine ⟨_, es, n, hg, D, fun z => ?_⟩
  cases e : tab.lookup z with
  | some i =>
    have m := lookup_mem e
    obtain ⟨u, h1, h2⟩ := He.valsB_ok hv (q := (Str.ofString z, He.Dv.int i)) (List.mem_map.mpr ⟨_, m, rfl⟩)
    refine ⟨_, h1, (fun q => nomatch q), fun j q => ?_⟩
    cases q
    obtain ⟨t, rfl⟩ := (show ∃ t, u = Value.int i t from h2)
    exact ⟨t, rfl⟩
  | none =>
    have no := lookup_no e
    have ks : es.toList.map He.keyOf = He.keysIn w.params (tab.map fun q => Str.ofString q.1) := by
      unfold He.dicW at hraw
      rw [D.at_] at hraw
      have low := D.low
      simp only [low, decide_true, Bool.true_and, Bool.not_false, Bool.and_true] at hraw
      simpa using hraw
    refine ⟨none, ?_, fun _ => rfl, fun j q => nomatch q⟩
    unfold PySem.W.nsIn
    rw [D.at_]
    have ef : es.toList.find? (·.key.isStr (Str.ofString z)) = none := by
      rw [List.find?_eq_none]
      intro ent hent h
      obtain ⟨k, t, e1, m⟩ := tab_keys ks ent hent
      rw [e1] at h
      obtain ⟨q, hq, e2⟩ := List.mem_map.mp m
      have e3 : k = Str.ofString z := by simpa [Value.isStr] using h
      exact no q hq (ofS_inj (e2.trans e3))
    have er : es.toList.any (·.refKey) = false := by
      rw [List.any_eq_false]
      intro ent hent h
      obtain ⟨k, t, e1, m⟩ := tab_keys ks ent hent
      simp [DictEntry.refKey, e1] at h
    simp only [ef, er]
    rfl
section
variable {X : Cx} [CW X] {W : WX} {ow : Ow} {a : Expr} {ma : EM} {pos p : Pos} {tab : List (String × Int)} {nm : Str}
theorem t_nothas (T : TabOk X.K X.w X.mg nm tab) (hg : Gl X nm) (ha : PE X a (tE X.K W ow ma)) (hm : behindInMarks .NotIn (.Name nm p) = false := by rfl) (hd : (nm == ("__debug__" : Str)) = false := by decide) : PT X (.Compare a [.NotIn] [.Name nm p] pos) (tT X.K W ow (tst (un (onothas tab) ma))) := by
  obtain ⟨d, es, n, h1, h2, h3⟩ := T
  refine PT.of (pt_cmpR (op_notIn_kd h2) ha (pe_glob (v := .ref d) hg h1 rfl hd) hm) fun σ H Q ⟨A, H0, O, en, R, q⟩ => ⟨A, H0, O, en, R, (Out.bind (Out.bind q)).good fun d1 q1 v1 H1 s1 r1 => ?_⟩
  cases d1 with
  | str z =>
    obtain ⟨r, e, k1, k2⟩ := h3 z
    refine ⟨_, r, r1, rfl, e, _, rfl, ?_⟩
    have e2 : r.isSome = (tab.lookup z).isSome := by
      cases e3 : tab.lookup z with
      | none => rw [k1 e3] <;> rfl
      | some i =>
        obtain ⟨t, e4⟩ := k2 i e3
        rw [e4] <;> rfl
    rw [e2]
    exact q1 _ s1
  | _ => exact q1.elim
theorem x_look (T : TabOk X.K X.w X.mg nm tab) (hg : Gl X nm) (ha : PE X a (tE X.K W ow ma)) (hs : PlainIx a := by exact fun _ _ => rfl) (hd : (nm == ("__debug__" : Str)) = false := by decide) : PE X (.Subscript (.Name nm p) a pos) (tE X.K W ow (un (olook tab) ma)) := by
  obtain ⟨d, es, n, h1, h2, h3⟩ := T
  refine PE.of (pe_ix ix_kdict (pe_glob (v := .ref d) hg h1 rfl hd) ha hs) fun σ H Q ⟨A, H0, O, en, R, q⟩ => ?_
  refine (⟨A, H0, O, en, R, (Out.bind q).good fun d1 q1 v1 H1 s1 r1 => ?_⟩ : tE X.K W ow ma σ H _)
  cases d1 with
  | str z =>
    obtain ⟨r, e, k1, k2⟩ := h3 z
    cases e3 : tab.lookup z with
    | none =>
      simp only [olook, e3, opt, Option.map_none] at q1
      exact q1.elim
    | some i =>
      obtain ⟨t, e4⟩ := k2 i e3
      subst e4
      simp only [olook, e3, opt, Option.map_some] at q1
      exact ⟨d, Str.ofString z, .int i, rfl, r1, ⟨es, n, _, h2.at_, h2.lit, e, ⟨t, rfl⟩⟩, q1 _ _ s1 (flat_rep (d := .int i) rfl _ _)⟩
  | _ => exact q1.elim
end
/-! ### append -/
theorem s_app1 {fr : Rm} {X : Cx} [CW X] {W : WX} {ow : Ow} {i : Nat} {o e : Expr} {m : EM} {apos cpos pos : Pos} (ho : PE X o (tVar i)) (h : PE X e (tE X.K W ow m)) (hi : ow i = true)
    (hbase : attributeBase o "append" X.env (eval o X.env) = eval o X.env := by rfl)
    (hfew : ((backTo cpos (starEach [e] X.env)).all (fun x => !x.1) && (backToKw cpos (keywordEach [] X.env)).all (fun x => x.1.isSome)
      && decide (([e] : List Expr).length + ([] : List Keyword).length + (if ([] : List Keyword).isEmpty then 0 else 1) < 30)) = true := by rfl)
    (hline : (apos.endLine == cpos.line) = true := by rfl) (hs : starEach [e] X.env = [(false, eval e X.env)] := by rfl)
    (hsw : swapsWith (.Call (.Attribute o "append" apos) [e] [] cpos) none pos.line X.env = pure false := by rfl) :
    PS X (.Expr (.Call (.Attribute o "append" apos) [e] [] cpos) pos) (tS fr X.K W ow (app i m)) :=
  s_app (ps_expr (pe_bm PySem.F.plainAttrs_list PySem.F.slot_list_append PySem.F.type_list_append mt_append ho (pa_cons h pa_nil hs) hbase hfew hline hs (by rfl)) hsw) hi
/-! ### code that is not reached -/
/-! ### the law -/
end Py
/-! What a head tells, in one place; the law's end. -/
namespace Py
open PySem L2
open He (Fa DefD Tab)
theorem Ctx.eq [WI] {X : Cx} [CW X] {W : WX} {k : Nat} (T : Ctx X W k) : OpR X (compareOp .Eq) (r2 X.K oeq) := y_eq (by have := T.hr.un; omega)
theorem Ctx.ne [WI] {X : Cx} [CW X] {W : WX} {k : Nat} (T : Ctx X W k) : OpR X (compareOp .NotEq) (r2 X.K one) := y_ne (by have := T.hr.un; omega)
theorem hv_len : bootBuiltins "len" = some (.builtin "len") := by decide +kernel
theorem hv_sum : bootBuiltins "sum" = some (.builtin "sum") := by decide +kernel
theorem hv_all : bootBuiltins "all" = some (.builtin "all") := by decide +kernel
theorem hv_max : bootBuiltins "max" = some (.builtin "max") := by decide +kernel
theorem hv_min : bootBuiltins "min" = some (.builtin "min") := by decide +kernel
theorem hv_int : bootBuiltins "int" = some (.type "int") := by decide +kernel
theorem hv_tuple : bootBuiltins "tuple" = some (.type "tuple") := by decide +kernel
theorem hv_list : bootBuiltins "list" = some (.type "list") := by decide +kernel
theorem hv_bool : bootBuiltins "bool" = some (.type "bool") := by decide +kernel
theorem hv_str : bootBuiltins "str" = some (.type "str") := by decide +kernel
/-! ### the list objects left out -/
theorem klookup_mem {a : Addr} {o : Obj} : ∀ {l : List (Addr × Obj)}, l.lookup a = some o → (a, o) ∈ l
  | [], h => by cases h
  | (b, u) :: r, h => by
    rw [List.lookup_cons] at h
    split at h
    · rename_i e
      have e1 : a = b := by simpa using e
      cases h
      subst e1
      exact List.mem_cons_self
    · exact List.mem_cons_of_mem _ (klookup_mem h)
theorem sqL_rd {K : Frag} (h : noL K = true) {H : Hp} {a : Addr} {vs : List V} (q : SqL K H a vs) : Rd H a (.lst vs) := by
  rcases q with q | ⟨o, its, n, hk, hc, _⟩
  · exact q
  · have m := List.all_eq_true.mp h _ (klookup_mem hk)
    simp [notList, hc] at m
/-! ### facts -/
structure Facts (fa : List Fa) (fn : List DefD) (ts : List Tab) (ms : List (Frag → Bool)) (w : World) (K : Frag) (mg : Str → Option Value) : Prop where
  c : He.SaysT fa fn ts w K
  m : (noL K && ms.all fun m => m K) = true
  h : ∃ h : Heap, K.In h ∧ h.Ns mainGlobals mg
section
variable {fa : List Fa} {fn : List DefD} {ts : List Tab} {ms : List (Frag → Bool)} {w : World} {K : Frag} {mg : Str → Option Value}
theorem Facts.glo (Y : Facts fa fn ts ms w K mg) (i : Nat) {x : Str} (h : fa[i]? = some (.glo x) := by rfl) : mg x = some (.ref (He.ga K x)) := by
  obtain ⟨_, KX, G⟩ := Y.h
  exact He.glo_ok KX G (Y.c.d.fact i h)
theorem Facts.free (Y : Facts fa fn ts ms w K mg) (i : Nat) {x : Str} (h : fa[i]? = some (.free x) := by rfl) : mg x = none := by
  obtain ⟨_, KX, G⟩ := Y.h
  exact He.free_ok KX G (Y.c.d.fact i h)
theorem Facts.mkr (Y : Facts fa fn ts ms w K mg) (i : Nat) {x : String} (h : fa[i]? = some (.mkr (Str.ofString x)) := by rfl) : Mk K (ca K x) (He.ma K (ca K x) "__init__") := He.mkr_ok (Y.c.d.fact i h)
theorem Facts.def_ (Y : Facts fa fn ts ms w K mg) (i : Nat) {d : DefD} (h : fn[i]? = some d := by rfl) : ∃ fd, FunD K d.name d.qual d.params d.body d.scope (d.dvs K) (d.kws K) (He.fAd K d.at_) fd := Y.c.d.def_ i h
theorem Facts.more (Y : Facts fa fn ts ms w K mg) (i : Nat) {m : Frag → Bool} (h : ms[i]? = some m := by rfl) : m K = true := by
  have q := Y.m
  rw [Bool.and_eq_true] at q
  exact List.all_eq_true.mp q.2 m (List.mem_of_getElem? h)
theorem Facts.noL (Y : Facts fa fn ts ms w K mg) : noL K = true := by
  have q := Y.m
  rw [Bool.and_eq_true] at q
  exact q.1
theorem att_ok {cs : List String} {f : String} (h : attB cs f K = true) : ∀ c ∈ cs, Cls K (ca K c) ∧ NoAttr K (ca K c) (Str.ofString f) := fun c hc => by
  have q := List.all_eq_true.mp h c hc
  rw [Bool.and_eq_true] at q
  exact ⟨He.cls_ok q.1, He.noat_ok q.2⟩
theorem Facts.tab [WI] (Y : Facts fa fn ts ms w K mg) {x : String} {tab : List (String × Int)} (i j k : Nat) (h1 : ts[i]? = some (tabT x tab) := by rfl) (h2 : ms[j]? = some (tabB x tab) := by rfl) (h3 : fa[k]? = some (.glo (Str.ofString x)) := by rfl) : TabOk K w mg (Str.ofString x) tab := by
  refine tab_ok ?_ (Y.more j h2) (Y.glo k h3)
  have e : ts.map (fun t => He.dicW K (t.1 K)) = ts.map fun t => some (He.keysIn w.params t.2) := congrArg (fun z : He.AlT => z.2) Y.c
  have e2 : (ts.map fun t => He.dicW K (t.1 K))[i]? = (ts.map fun t => some (He.keysIn w.params t.2))[i]? := by rw [e]
  rw [List.getElem?_map, List.getElem?_map, h1] at e2
  exact Option.some.inj e2
end
/-! ### the law's def -/
section
variable [WI] {P : Program} {w : World} [HW w] {K : Frag} {mg : Str → Option Value} {k : Nat} {ow oN oB : Ow} {m : SM} {qual : Str} {params : Arguments} {body : List Stmt} {scope : Scope} {f : Addr} {N : List Str} {n : Nat}
theorem law_ok (F : ∃ fd, FunD K "law" qual params body scope [] [] f fd) (S : FnScope N ["script"] scope) (hnl : N.length = n) (hp : ow 0 = false)
    (hbind : ∀ (kV doc pm : Value) (an : Option Addr) (cdv ct : Value) (us : List Value), us.length = 1 → bindArgs (PySem.W.fnOf "law" qual params body scope .none kV doc pm an cdv ct) ⟨us, []⟩ = pure ((["script"] : List Str).zip us))
    (hb : ∀ (base : Heap) (cdv : Value) (A : Around) (outer : List PySem.Env) (s : Shared) (H : Hp) (E : XK), Ctx (cxOf (L2N.CX P w) P w K mg base N qual scope f cdv A outer s H E) (WD E) k →
      PSs (cxOf (L2N.CX P w) P w K mg base N qual scope f cdv A outer s H E) body (tS3 .val K (WD E) ow oN oB m)) (hx : ow.x = none := by rfl) :
    ∃ fd : FuncData, (∀ (s : Shared) (u : Value), BindsTo s fd ⟨[u], []⟩ [("script", u)]) ∧ ∀ base : Heap, FnOk P w K mg base (L2N.CX P w) (k + 1) f fd ["script"] (spM K 1 (fn 1 n m)) := by
  obtain ⟨fd, F⟩ := F
  subst hnl
  have b := FunD.bindsA (ps := ["script"]) F hbind
  exact ⟨fd, fun s v => b s [v] rfl, fun base => fn_ok F S hx (fun i hi => by
    have : i = 0 := by simpa using hi
    subst this
    exact hp) (hb base)⟩
theorem ints_rep {K : Frag} {A : AS} {H : Hp} : ∀ ns : List Int, RepL K A H (ns.map D.int) (ns.map V.int)
  | [] => by simp [RepL]
  | n :: ns => by
    simp only [List.map_cons, RepL]
    exact ⟨_, _, rfl, rfl, ints_rep ns⟩
omit [WI] in
/-- what escapes nothing can be handed out -/
theorem cx_none {P : Program} {w : World} {H : Hp} {s : Shared} {e : Value} {s' : Shared} (h : L2N.CX P w [] H s (fun _ _ _ => False) e s') : False := by
  obtain ⟨a, B, H', cls, d, rfl, fl, hok, ub, na, os, ag, hE⟩ := h
  exact hE
end
open PyProof.Rows in
theorem walk_ofW {l : PySem.W.OpenLaw} {n k : Nat} {q : Program} {loose : List Str} {XP : (Str → Option Value) → Heap → Prop} {YP : World → Heap → Prop} {d : DefRec} {CX : World → CXT} {x : Str}
    (hn : l.most = some n) (hn2 : n ≤ sizeLine) (hdf : d.params.defaults = []) (hr : Room k callerA)
    (F : ∀ (w : World) (mg : Str → Option Value) (fa : Addr) (h : Heap), YP w h → h.Ns mainGlobals mg → mg d.name = some (.ref fa) →
      ∃ (K : PySem.W.Frag) (fd : FuncData) (sp : Sp), K.In h ∧ (∀ (s : Shared) (u : Value), BindsTo s fd ⟨[u], []⟩ [(x, u)]) ∧
        (∀ (H : Hp) (a : Addr) (ns : List Int), ns.length ≤ n → Only H → SqL K H a (ns.map V.int) → sp [.ref a] H (fun v _ => v = .bl true) fun _ _ _ => False) ∧
        ∀ base : Heap, K.In base → base.Ns mainGlobals mg → FnOk l.prog w K mg base (CX w) k fa fd [x] sp)
    (hCX : ∀ (w : World) (H : Hp) (s : Shared) (e : Value) (s' : Shared), CX w [] H s (fun _ _ _ => False) e s' → False) :
    PySem.W.WalkO q loose XP YP l.row.toRowW d [] (fun f vs => PySem.call f vs) := by
  refine Att.attach_call hn hdf fun w s₀ s₁ mg mb fa o pm cd doc a vs ns G Y ho hd hcd hmg hobj hints hlen hg => ?_
  obtain ⟨K, fd, sp, KX, hb, hsp, hF⟩ := F w mg fa _ Y G.T.g hmg
  exact law_call KX G.T.g G.T.b G.T.builtins G.T.nolimit hg hobj hints (Nat.le_trans hlen hn2) hr hF hb (fun H hO hS => hsp H a ns hlen hO hS) fun H e s' => hCX w H s₁ e s'
end Py
/-! Methods of own classes, zip, constants of the module, |=. -/
namespace Py
variable [WI]
open PySem L2
open He (Fa DefD Tab)
/-! ### methods -/
section
variable {fa : List Fa} {fn : List DefD} {ts : List Tab} {ms : List (Frag → Bool)} {w : World} [HW w] {K : Frag} {mg : Str → Option Value}
theorem Facts.cls (Y : Facts fa fn ts ms w K mg) (i : Nat) {x : String} (h : fa[i]? = some (.cls (Str.ofString x)) := by rfl) : Cls K (ca K x) := He.cls_ok (Y.c.d.fact i h)
theorem Facts.meth (Y : Facts fa fn ts ms w K mg) (i : Nat) {x : String} {m : Str} (h : fa[i]? = some (.meth (Str.ofString x) m) := by rfl) : Meth K (ca K x) m (He.ma K (ca K x) m) := He.meth_ok (Y.c.d.fact i h)
theorem Facts.int (Y : Facts fa fn ts ms w K mg) (i : Nat) {x : Str} {z : Int} (h : fa[i]? = some (.int x z) := by rfl) : ∃ t, mg x = some (.int z t) := by
  obtain ⟨_, KX, G⟩ := Y.h
  exact He.int_ok KX G (Y.c.d.fact i h)
theorem Facts.str (Y : Facts fa fn ts ms w K mg) (i : Nat) {x z : Str} (h : fa[i]? = some (.str x z) := by rfl) : ∃ t, mg x = some (.str z t) := by
  obtain ⟨_, KX, G⟩ := Y.h
  exact He.str_ok KX G (Y.c.d.fact i h)
theorem dv_rep {A : AS} {H : Hp} {d : D} (h : flatD d = true) : Rep K A H d (((dvOf d).getD .non).v K) := by
  cases d <;> first | rfl | cases h
theorem dvs_rep {A : AS} {H : Hp} : ∀ {ds : List D}, ds.all flatD = true → RepL K A H ds ((dvsOf ds).map (He.Dv.v K))
  | [], _ => by simp [RepL, dvsOf]
  | d :: ds, h => by
    simp only [List.all_cons, Bool.and_eq_true] at h
    simp only [dvsOf, List.map_cons, RepL]
    exact ⟨_, _, rfl, dv_rep h.1, dvs_rep h.2⟩
end
section
variable {X : Cx} [CW X] {W : WX} {ow : Ow} {x : Str} {pos : Pos}
theorem x_gtup {y : String} {ds : List D} (hy : x = Str.ofString y) (hg : Gl X x) (hm : X.mg x = some (.ref (He.ga X.K x))) (hc : tupC y ds X.K = true) (hf : ds.all flatD = true) (hd : (x == ("__debug__" : Str)) = false := by decide) : PE X (.Name x pos) (tE X.K W ow (cst (.tup ds))) := by
  subst hy
  refine PE.of (pe_glob (v := .ref (He.ga X.K (Str.ofString y))) hg hm rfl hd) fun σ H Q ⟨A, H0, O, en, R, q⟩ => ?_
  refine q _ H (Same.refl H) ?_
  simp only [Rep]
  exact ⟨_, _, rfl, He.tupB_ok hc H, dvs_rep hf⟩
end
/-! ### another name of a def -/
/-! ### zip -/
/-! ### x |= y -/
end Py
namespace Py
open PySem PySem.Spec PyProof.Rows L2
/-! ### zip over any two of lists and tuples: k = true: a tuple -/
def IAt (k : Bool) (h : Heap) (it l : Addr) (i : Nat) : Prop := match k with | true => h.IsTupleIter it l i | false => h.IsListIter it l i
def SAt (k : Bool) (h : Heap) (l : Addr) (xs : Array Value) : Prop := match k with | true => h.IsTuple l xs | false => h.IsList l xs
theorem IAt.some {k : Bool} {h : Heap} {it l : Addr} {i : Nat} (x : IAt k h it l i) : ∃ o, h.get? it = some o ∧ ∀ v, o.data ≠ .cell v := by
  cases k with
  | true => obtain ⟨o, ho, _, d⟩ := x; exact ⟨o, ho, fun v q => by rw [d] at q; cases q⟩
  | false => obtain ⟨o, ho, _, d⟩ := x; exact ⟨o, ho, fun v q => by rw [d] at q; cases q⟩
/-! the turn -/
def SqK (k : Bool) (K : Frag) (H : Hp) (a : Addr) (xs : List V) : Prop := match k with | true => SqT K H a xs | false => SqL K H a xs
theorem SqK.at {k : Bool} {X : Cx} {pins : List (Addr × Obj)} {σ : L2.St} {H : Hp} {s : Shared} {a : Addr} {xs : List V} (I : Inv X pins σ H s) (q : SqK k X.K H a xs) : ∃ its, Vals xs its ∧ SAt k s.heap a its.toArray ∧ a < s.heap.objs.size := by
  cases k with
  | true =>
    obtain ⟨its, r, p, _⟩ := I.tuple q
    obtain ⟨o, ho, _⟩ := id p
    exact ⟨its, r, p, Heap.lt_size ho⟩
  | false =>
    obtain ⟨its, r, p, _⟩ := I.list q
    exact ⟨its, r, p.isList, p.lt⟩
theorem SqK.inj {k : Bool} {X : Cx} {pins : List (Addr × Obj)} {σ : L2.St} {H : Hp} {s : Shared} {a : Addr} {xs ys : List V} (I : Inv X pins σ H s) (q : SqK k X.K H a xs) (q' : SqK k X.K H a ys) : xs = ys := by
  cases k with
  | true => exact I.tuple_inj q q'
  | false => exact I.list_inj q q'
/-! ### zip in the mirror -/
variable [WI]
end Py
/-! Who owns what, statement by statement. -/
namespace Py
variable [WI]
open PySem L2
/-- the names that own what they hold -/
def ownS : List Nat → Nat → Bool
  | [], _ => false
  | j :: l, i => i == j || ownS l i
theorem owS_mem : ∀ {l : List Nat} {i : Nat}, ownS l i = true → i ∈ l
  | j :: l, i, h => by
    unfold ownS at h
    rw [Bool.or_eq_true] at h
    rcases h with h | h
    · exact List.mem_cons.mpr (.inl (by simpa using h))
    · exact List.mem_cons_of_mem _ (owS_mem h)
theorem owS_le {l l' : List Nat} (h : (l'.all fun i => ownS l i) = true) : ∀ i, ownS l' i = true → ownS l i = true := fun i hi => List.all_eq_true.mp h i (owS_mem hi)
theorem owS_add {l l' : List Nat} {i : Nat} (h : (l'.all fun j => j == i || ownS l j) = true ∧ ownS l' i = true ∧ (l.all fun j => ownS l' j) = true) : ∀ j, ownS l' j = (j == i || ownS l j) := fun j => by
  obtain ⟨h1, h2, h3⟩ := h
  cases e : ownS l' j with
  | true => exact (List.all_eq_true.mp h1 j (owS_mem e)).symm
  | false =>
    cases e2 : (j == i || ownS l j) with
    | false => rfl
    | true =>
      rw [Bool.or_eq_true] at e2
      rcases e2 with e2 | e2
      · rw [show j = i by simpa using e2, h2] at e
        cases e
      · rw [List.all_eq_true.mp h3 j (owS_mem e2)] at e
        cases e
abbrev owS (l : List Nat) : Ow := ⟨ownS l, none⟩
/-- the new owners know no more of an error -/
def XLe (o1 o : Ow) : Prop := o1.x = none ∨ (o1.x = o.x ∧ ∀ q, o1.x = some q → o q.i = true → o1 q.i = true)
theorem XLe.refl {o : Ow} : XLe o o := .inr ⟨rfl, fun _ _ z => z⟩
theorem XFact.cut {K : Frag} {A : AS} {H : Hp} {σ : L2.St} {e : Env} {o o1 : Ow} (h : XFact K A H σ e o) (l : XLe o1 o) : XFact K A H σ e o1 := fun q hq => by
  rcases l with l | ⟨l1, l2⟩
  · rw [l] at hq
    cases hq
  · obtain ⟨h1, h2, h3, h4⟩ := h q (l1 ▸ hq)
    exact ⟨l2 q hq h1, h2, h3, h4⟩
section
variable {fr : Rm} {K : Frag} {A : AS} {H0 : Base} {ow o1 oN oB : Ow} {O : OW} {σ : L2.St} {H H' : Hp} {e : Env}
def cutO (ow o1 : Ow) (O : OW) : OW := fun i => if ow (i / 3) = true ∧ o1 (i / 3) = false then none else O i
theorem cutO_some {i : Nat} {a : Addr} (h : cutO ow o1 O i = some a) : O i = some a := by
  unfold cutO at h
  split at h
  · cases h
  · exact h
theorem cut_less : ∀ a, AO A (cutO ow o1 O) a → AO A O a := fun a h => h.elim .inl fun ⟨i, q⟩ => .inr ⟨i, cutO_some q⟩
/-- some names give up what they own -/
theorem ER.part (R : ER K A H0 ow O σ H e) (h : ∀ i, o1 i = true → ow i = true) (h0 : ow 0 = true → o1 0 = true) (hx : XLe o1 ow) : ER K A H0 o1 (cutO ow o1 O) σ H e := by
  have mv : Mv (AO A O) H (AO A (cutO ow o1 O)) H := Mv.less cut_less
  have stay : ∀ i j, o1 i = true → j / 3 = i → cutO ow o1 O j = O j := fun i j hi e => by
    unfold cutO
    rw [if_neg]
    rintro ⟨_, z⟩
    rw [e, hi] at z
    cases z
  have third : ∀ (i : Nat) (t : Bool), (3 * i + if t then 2 else 1) / 3 = i := fun i t => by cases t <;> simp <;> omega
  refine ⟨R.len, R.a0, R.same, fun i d h1 h2 => ?_, fun i d h1 h2 => ?_, fun i a q => R.fresh i a (cutO_some q), fun i j a q q' => R.inj i j a (cutO_some q) (cutO_some q'), fun a q => ?_, (R.exq.heap mv fun _ _ e => e).cut hx⟩
  · cases hi : ow i with
    | false =>
      obtain ⟨v, q, r⟩ := R.vals i d h1 hi
      exact ⟨v, q, Rep.move mv _ _ r⟩
    | true =>
      obtain ⟨a, q, q2, r⟩ := R.owns i d h1 hi
      refine ⟨.ref a, q2, ?_⟩
      have gone : ∀ (j : Nat) (b : Addr), j / 3 = i → O j = some b → ¬ AO A (cutO ow o1 O) b := fun j b hj e => by
        rintro (z | ⟨l, z⟩)
        · exact (R.fresh j b e).2.2 z
        · have e1 := R.inj j l b e (cutO_some z)
          subst e1
          unfold cutO at z
          rw [hj, if_pos ⟨hi, h2⟩] at z
          cases z
      exact r.rep mv (gone _ a (by omega) q) fun t b z => gone _ b (third i t) z
  · obtain ⟨a, q, q2, r⟩ := R.owns i d h1 (h i h2)
    exact ⟨a, (stay i _ h2 (by omega)).trans q, q2, r.move mv rfl fun t b z => ⟨(stay i _ h2 (third i t)).trans z, rfl⟩⟩
  · have q0 := R.pin a q
    unfold cutO
    rw [if_neg]
    · exact q0
    · rintro ⟨z1, z2⟩
      rw [h0 z1] at z2
      cases z2
/-- a name is to own what comes next -/
theorem ER.opens (R : ER K A H0 ow O σ H e) {i : Nat} (hi : ow i = false) (hN : ∀ j, oN j = (j == i || ow j)) (hx : XLe oN ow) : ER K A H0 oN O σ H (e.set i none) := by
  have other : ∀ j d, (e.set i none)[j]? = some (some d) → i ≠ j ∧ e[j]? = some (some d) := fun j d h => by
    by_cases hj : i = j
    · subst hj
      have hl : i < e.length := by
        have := (List.getElem?_eq_some_iff.mp h).1
        simpa using this
      rw [List.getElem?_set_self hl] at h
      cases h
    · rw [List.getElem?_set_ne hj] at h
      exact ⟨hj, h⟩
  refine ⟨by simp [R.len], R.a0, R.same, fun j d h1 h2 => ?_, fun j d h1 h2 => ?_, R.fresh, R.inj, R.pin, (R.exq.move Mv.refl (fun _ _ e => e) fun j hj n => ?_).cut hx⟩
  rotate_right
  · have hne : i ≠ j := fun z => by
      rw [z, hj] at hi
      cases hi
    rw [List.getElem?_set_ne hne]
    exact ⟨rfl, n⟩
  · obtain ⟨hj, h3⟩ := other j d h1
    rw [hN, show (j == i) = false by simpa using fun z => hj z.symm, Bool.false_or] at h2
    exact R.vals j d h3 h2
  · obtain ⟨hj, h3⟩ := other j d h1
    rw [hN, show (j == i) = false by simpa using fun z => hj z.symm, Bool.false_or] at h2
    exact R.owns j d h3 h2
theorem EndOk3.le {o1 oB1 : Ow} {D : Ends} (hN : ∀ i, oN i = true → o1 i = true) (hN0 : o1 0 = true → oN 0 = true) (hB : ∀ i, oB i = true → oB1 i = true) (hB0 : oB1 0 = true → oB 0 = true) (hNx : XLe oN o1) (hBx : XLe oB oB1) : ∀ {f : Fl}, EndOk3 fr K A H0 oN oB O H D f → EndOk3 fr K A H0 o1 oB1 O H D f
  | .next _, h => fun O' σ' H' R n => h _ σ' H' (R.part hN hN0 hNx) (n.trans (Mv.less cut_less))
  | .ret _, h => h
  | .brk _, h => fun O' σ' H' R n => h _ σ' H' (R.part hB hB0 hBx) (n.trans (Mv.less cut_less))
  | .cnt _, h => fun O' σ' H' R n => h _ σ' H' (R.part hB hB0 hBx) (n.trans (Mv.less cut_less))
end
section
variable {fr : Rm} {X : Cx} [CW X] {W : WX} {ow o1 oN oB : Ow} {a b c e : Expr} {es : List Expr} {m ma mb mc : EM} {st : Stmt} {rest body orelse : List Stmt} {u v : SM} {t : TM} {pos : Pos} {j : Nat}
/-- a statement that changes no owner -/
theorem s_up (h : PS X st (tS fr X.K W ow u)) (hB : ∀ i, oB i = true → ow i = true) (hB0 : ow 0 = true → oB 0 = true) (hx : XLe oB ow := by first | exact Or.inl rfl | exact XLe.refl | exact Or.inr ⟨rfl, by intro q z; cases z; intro _; rfl⟩) : PS X st (tS3 fr X.K W ow ow oB u) :=
  PS.of h fun D σ H ⟨A, H0, O, en, R, q⟩ => ⟨A, H0, O, en, R, q.good fun f q1 => q1.le (fun _ z => z) (fun z => z) hB hB0 XLe.refl hx⟩
theorem c_nil : PSs X [] (tS3 fr X.K W ow ow oB skip) := PSs.of pss_nil fun D σ H ⟨A, H0, O, en, R, q⟩ => q O σ H R Mv.refl
theorem c_one (h : PS X st (tS3 fr X.K W ow oN oB u)) : PSs X [st] (tS3 fr X.K W ow oN oB u) := pss_one h
theorem c_cons (h : PS X st (tS3 fr X.K W ow o1 oB u)) (k : PSs X rest (tS3 fr X.K W o1 oN oB v)) : PSs X (st :: rest) (tS3 fr X.K W ow oN oB (seq u v)) :=
  PSs.of (pss_cons h k) fun D σ H ⟨A, H0, O, en, R, q⟩ => ⟨A, H0, O, en, R, (Out.bind q).good fun f q1 => by
    cases f with
    | next e' => exact fun O' σ' H' R' mv => ⟨A, H0, O', e', R', q1.good fun f q2 => q2.to mv⟩
    | ret d => exact q1
    | brk e' => exact q1
    | cnt e' => exact q1⟩
/-- names give up what they own -/
theorem c_cut (h : PSs X rest (tS3 fr X.K W o1 oN oB v)) (h1 : ∀ i, o1 i = true → ow i = true) (h0 : ow 0 = true → o1 0 = true) (hx : XLe o1 ow := by first | exact Or.inl rfl | exact XLe.refl | exact Or.inr ⟨rfl, by intro q z; cases z; intro _; rfl⟩) : PSs X rest (tS3 fr X.K W ow oN oB v) :=
  PSs.of h fun D σ H ⟨A, H0, O, en, R, q⟩ => ⟨A, H0, _, en, R.part h1 h0 hx, q.good fun f q1 => q1.to (Mv.less cut_less)⟩
/-- a name gets a new object of its own -/
theorem c_own {i : Nat} (h : PS X st (tAsg (tF X.K W ow m) (gName i))) (hi : ow i = false) (hN : ∀ j, oN j = (j == i || ow j)) (h0 : 0 < i := by decide) (hx : XLe oN ow := by first | exact Or.inl rfl | exact XLe.refl | exact Or.inr ⟨rfl, by intro q z; cases z; intro _; rfl⟩) : PS X st (tS3 fr X.K W ow oN oB (asg (gnm i) m)) :=
  PS.of h fun D σ H ⟨A, H0, O, en, R, q⟩ => ⟨A, H0, O, en, R, ((Out.bind q).se R).good fun d q1 a H1 n s1 r1 => by
    have hNi : oN i = true := by rw [hN]; simp
    have hxi : ∀ q, oN.x = some q → q.i ≠ i := fun q hq z => by
      rcases hx with hx | ⟨hx, _⟩
      · rw [hx] at hq
        cases hq
      · have z2 := (R.exq q (hx ▸ hq)).own
        rw [z, hi] at z2
        cases z2
    obtain ⟨R2, mv⟩ := (R.opens hi hN hx).take s1 hxi hNi h0 n r1
    rw [List.set_set] at R2
    exact q1 _ _ H1 R2 mv⟩
theorem c_if (hc : PT X a (tT X.K W ow t)) (hb : PSs X body (tS3 fr X.K W ow oN oB u)) (ho : PSs X orelse (tS3 fr X.K W ow oN oB v)) : PS X (.If a body orelse pos) (tS3 fr X.K W ow oN oB (ite t u v)) :=
  PS.of (ps_if hc hb ho) fun D σ H ⟨A, H0, O, en, R, q⟩ => ⟨A, H0, O, en, R, ((Out.bind q).se R).good fun k q1 H1 s1 => by
    cases k with
    | true =>
      rw [if_pos rfl] at q1 ⊢
      exact ⟨A, H0, O, en, R.to s1, q1.good fun f q2 => q2.to (Mv.same s1)⟩
    | false =>
      rw [if_neg (by decide)] at q1 ⊢
      exact ⟨A, H0, O, en, R.to s1, q1.good fun f q2 => q2.to (Mv.same s1)⟩⟩
end
end Py
/-! Defs that give back a new list: their caller owns it. -/
namespace Py
variable [WI]
open PySem L2
section
variable {X : Cx} [CW X] {W : WX} {ow oN oB : Ow} {a : Expr} {m : EM} {pos : Pos}
theorem OwnG.at {K : Frag} {A : AS} {G : GW} {H : Hp} {a : Addr} {d : D} (h : OwnG K A G H a d) (l : (∃ xs, d = .lst xs) ∨ ∃ t kvs, d = .dic t kvs) : OwnAt K A H a d := by
  rcases l with ⟨xs, rfl⟩ | ⟨t, kvs, rfl⟩ <;> exact h
end
def spF (K : Frag) (p : Nat) (m : List D → Res D) : Sp := fun vs H Q E => ∃ A ds, RepL K A H ds vs ∧ ds.length = p ∧ (∀ a, A a → H a ≠ none) ∧
  Out (m ds) (fun d => (d = .non → ∀ H', Same H H' → Q .non H') ∧ ∀ a H', H a = none → Same H H' → OwnAt K (fun b => A b ∨ b = a) H' a d → Q (.ref a) H') (fun c fs => ∀ da H' fvs, Same H H' → H' da = some (.xd fvs) → RepF K A H' fs fvs → E (.ref (ca K c)) (some da) H')
theorem spF_le {K : Frag} {p : Nat} {m : List D → Res D} {vs : List V} {H : Hp} {Q : VK} {E : XK} (h : spM K p m vs H Q E) : spF K p m vs H Q E := by
  obtain ⟨A, ds, r, hl, ha, q⟩ := h
  refine ⟨A, ds, r, hl, ha, q.good fun d k => ⟨fun e H' s => ?_, fun a H' n s o => k (.ref a) H' s ?_⟩⟩
  · subst e
    exact k .non H' s rfl
  · have na : ¬ A a := fun z => ha a z n
    have mv : Mv (fun b => A b ∨ b = a) H' A H' := Mv.less fun b x => .inl x
    exact o.rep mv na
/-- the name x calls a def that gives back a new list -/
def CallF (P : Program) (w : World) (K : Frag) (mg : Str → Option Value) (base : Heap) (k : Nat) (x : Str) (d : He.DefD) (ps : List Str) (n : Nat) (fm : List D → Res D) : Prop := ∃ f fd, mg x = some (.ref f) ∧ PySem.W.keepIn K (.ref f) = true ∧ Binds K fd ps [] ∧ FnOk P w K mg base (L2N.CX P w) k f fd ps (spF K n fm) ∧ Ar n fm ∧ FunD K d.name d.qual d.params d.body d.scope [] [] f fd
theorem CallF.le {P : Program} {w : World} {K : Frag} {mg : Str → Option Value} {base : Heap} {k : Nat} {x : Str} {d : He.DefD} {ps : List Str} {n : Nat} {fm : List D → Res D} (C : CallF P w K mg base k x d ps n fm) : CallOk P w K mg base k x d ps n fm := by
  obtain ⟨f, fd, h1, h2, h3, h4, h5⟩ := C
  exact ⟨f, fd, h1, h2, h3, h4.imp fun _ _ _ _ z => spF_le z, h5⟩
end Py
/-! More expressions. -/
/-! The __init__ of an own exception: super().__init__(..), then its fields. -/
namespace Py
open PySem L2 PyProof.Rows
/-- an exception's __init__ that keeps what it is given, under these names -/
def spX (C : Addr) (n : Nat) (fs : List Str) : Sp := fun vs H Q E => ∃ a H1 ws, vs = .ref a :: ws ∧ H = upd H1 a (exo a C none) ∧ H1 a = none ∧ ws.length = n ∧
  ∀ d H2, H2 a = some (exo a C (some d)) → H2 d = some (exd d (fs.zip ws).reverse) → H1 d = none → d ≠ a → (∀ b, b ≠ a → b ≠ d → H2 b = H1 b) → Q .non H2
/-- what the written part tells of the class C whose __init__ is f -/
structure XIn (P : Program) (K : Frag) (C f cc cda : Addr) (nm qual : Str) (params : Arguments) (body : List Stmt) (scope : Scope) (fd : FuncData) : Prop where
  fn : ∃ (oc : Value) (od : Option Addr) (dV kV doc pm : Value) (an : Option Addr) (ct : Value) (osl : Array (Option Value)),
    fd = PySem.W.ksFn nm qual params body scope dV kV doc pm an (.ref cda) ct cc ∧ K.lookup f = some ⟨oc, od, .func fd, osl⟩
  cd : PySem.W.codeIn K (.ref cda) qual = true
  fl : ∃ (ccl : Value) (cdd : Option Addr) (vs : Array Value) (ccs : Array (Option Value)) (file : Str) (tf : Tok), K.lookup cda = some ⟨ccl, cdd, .fields vs, ccs⟩ ∧ vs[2]? = some (.str file tf) ∧ ((P.main.file : Str) == file) = true
  cell : ∃ (cl : Value) (cld : Option Addr) (csl : Array (Option Value)), K.lookup cc = some ⟨cl, cld, .cell (some (.ref C)), csl⟩
  T : OexC K C
  sup : PySem.W.ks_superIn K C C "__init__" = some (some (.builtin "ValueError.__init__"))
  ve : PySem.W.subIn K (.ref C) (.type "ValueError") = some true
  me : PySem.W.mroIn K C (.ref C) = some true
  thi : PySem.W.nsIn K cStatics "thirdparty.any" = some none
theorem oexC_cd {K : Frag} {C : Addr} (T : OexC K C) : ∃ (cd : ClassData) (dd : Option Addr) (sl : Array (Option Value)), PySem.W.clsIn K C = some cd ∧ K.lookup C = some ⟨.type "type", dd, .cls cd, sl⟩ := by
  obtain ⟨nm, q, N, bs, bm, sn, sub, ab, col, dd, k0, k1, k2, k3, k5, hC, hbm⟩ := T.cls
  exact ⟨_, dd, _, by unfold PySem.W.clsIn; rw [hC] <;> rfl, hC⟩
theorem hv_super : bootBuiltins "super" = some (.type "super") := by decide +kernel
section
variable {P : Program} {w : World} {K : Frag} {mg : Str → Option Value} {base : Heap} {C f cc cda : Addr} {nm qual self txt : Str} {params : Arguments} {body rest : List Stmt} {scope : Scope} {fd : FuncData} {N ps fs : List Str} {k : Nat} {ar : Arg}
theorem callWith_kxs {M : Model} {A : Around} {E : Value → Shared → Prop} {s : Shared} {i : String} {u x : Addr} {pos : Pos} {env : PySem.Env} {e : Expr} {es : List Expr} {Q : Value → Shared → Prop}
    (h : wpAny M A (spliced (backTo pos (starEach (e :: es) env))) (fun vs s₁ => PySem.W.KxsAt i u x s₁.heap ∧ wpAny M A (PySem.call (.ref u) vs) Q E s₁) E s)
    (he : starEach (e :: es) env = (false, eval e env) :: starEach es env := by rfl) (hplain : (backTo pos (starEach es env)).any (·.1) = false := by rfl) :
    wpAny M A (callWith pos (.ref u) [] (backTo pos (starEach (e :: es) env)) []) Q E s := by
  rw [he] at h ⊢
  refine PySem.W.kxs_callWith (i := i) (x := x) (by show (false || (backTo pos (starEach es env)).any (·.1)) = false; rw [hplain]; rfl) ?_
  exact PySem.Calls.evalArgs_plain h
/-- super().__init__(..) called: the object keeps its shape -/
theorem kxs_done {X : Cx} {pins : List (Addr × Obj)} {σ : L2.St} {H : Hp} {s : Shared} {A : Around} {E : Value → Shared → Prop} {u a C : Addr} {us : List Value} {Q : Value → Shared → Prop} (T : OexC X.K C) (I : Inv X pins σ H s) (e : H a = some (exo a C none)) (hu : s.heap.get? u = some (PySem.W.kxs_mw "ValueError.__init__" a))
    (hl : us.length ≤ sizeLine) (h : ∀ s', Inv X pins σ H s' → Q .none s') : wpAny (model X.prog X.w) A (PySem.call (.ref u) us) Q E s := by
  obtain ⟨nm, q, N, bs, bm, sn, sub, ab, col, dd, k0, k1, k2, k3, k5, hC, hbm⟩ := T.cls
  obtain ⟨t1, ho⟩ := exo_at I.hok e
  have hCh := I.kIn _ _ hC
  obtain ⟨hp, g, d, t, os⟩ := s
  refine wpAny_call (codeAny_of_tree ?_)
  show wpAny _ A.in1 (callAny (.ref u) ⟨us, []⟩) _ _ _
  simp only [callAny]
  refine wpAny_bind (wpAny_load hu ?_)
  simp only [PySem.W.kxs_mw, show (Value.type "method-wrapper" == Value.type "method" || Value.type "method-wrapper" == Value.type "builtin_function_or_method" || Value.type "method-wrapper" == Value.type "method-wrapper") = true by decide, if_true]
  refine PySem.W.KFB.if_so (by decide) ?_
  refine wpAny_bind (PySem.W.check_bound_init PySem.F.excBase_ValueError.toExcCallFacts hCh ho rfl ?_)
  refine wpAny_bind (wpAny_pure (wpAny_pure ?_))
  refine ⟨plainId_quiet PySem.F.excBase_ValueError.init.plain _, codeAny_builtin PySem.F.excBase_ValueError.initEntry ?_⟩
  refine PySem.W.exc_init_tree (cls := .ref C) (t0 := t1) (dv := none) (c2 := .none) (c3 := .none) (b4 := .bool false) ho hl fun h' kp hx ht => ?_
  have J := I.write (t' := t) (x := a) (e := a) (o := exo a C none) (by rw [e]; exact True.intro) (.inl rfl) kp ⟨_, hx⟩ (exo_ok hx)
  have eu : upd H a (exo a C none) = H := by
    funext b
    by_cases hb : b = a
    · rw [hb, upd_same, e]
    · rw [upd_ne hb]
  rw [eu] at J
  exact h _ J
theorem xinit_ok {n : Nat} (XI : XIn P K C f cc cda nm qual params body scope fd) (hps : ps = self :: fs) (hlen : fs.length = n) (S : NdefX.NScope N ps ["__class__"] scope) (har : (params.posonlyargs ++ params.args).head? = some ar) (hself : ar.arg = self)
    (hmg : mg "super" = none) (hsk : scope.names.lookup ("super" : Str) = some .globalImplicit) (htop : (P.main.scope.names.lookup ("super" : Str)).isSome = false)
    {p0 p1 p2 p3 p4 p5 : Pos} {j : Nat}
    (hbody : body = .Expr (.Call (.Attribute (.Call (.Name "super" p0) [] [] p1) "__init__" p2) [.Constant (.str txt) j p3] [] p4) p5 :: rest)
    {t : TS} (hb : ∀ (A : Around) (outer : List PySem.Env) (s : Shared) (H : Hp) (E : XK), PSs (NdefX.ncx (L2N.CX P w) P w K mg base N ⟨nm, qual, params, body, scope, [("__class__", cc)], cda⟩ f A outer s H E) rest t)
    (ht : ∀ (a : Addr) (ws : List V) (H1 : Hp) (D : Ends) (σ : L2.St), σ[0]? = some (some (.ref a)) → (∀ i v, ws[i]? = some v → σ[i + 1]? = some (some v)) → ws.length = n → H1 a = none →
      (∀ d H2 σ', H2 a = some (exo a C (some d)) → H2 d = some (exd d (fs.zip ws).reverse) → H1 d = none → d ≠ a → (∀ b, b ≠ a → b ≠ d → H2 b = H1 b) → D.nx σ' H2) → t D σ (upd H1 a (exo a C none)))
    (hin : ∀ (L : Addr), interactive (PySem.W.ksEnv qual scope L f (.ref cda) cc) = false := by intro _; rfl)
    (hsw : ∀ (L : Addr), swapsWith (.Call (.Attribute (.Call (.Name "super" p0) [] [] p1) "__init__" p2) [.Constant (.str txt) j p3] [] p4) none p5.line (PySem.W.ksEnv qual scope L f (.ref cda) cc) = pure false := by intro _; rfl)
    {pl : Sem Bool} (hea : ∀ (L : Addr), eval (.Call (.Attribute (.Call (.Name "super" p0) [] [] p1) "__init__" p2) [.Constant (.str txt) j p3] [] p4) (PySem.W.ksEnv qual scope L f (.ref cda) cc) = (do
      let ov ← attributeBase (.Call (.Name "super" p0) [] [] p1) "__init__" (PySem.W.ksEnv qual scope L f (.ref cda) cc) (eval (.Call (.Name "super" p0) [] [] p1) (PySem.W.ksEnv qual scope L f (.ref cda) cc))
      standAt p2.atName
      let (g, first) ← holding [ov] (getMethod ov "__init__" pl)
      callWith p4 g first (backTo p4 (starEach [.Constant (.str txt) j p3] (PySem.W.ksEnv qual scope L f (.ref cda) cc))) []) := by intro _; rfl)
    (hst : ∀ (L : Addr), starEach [.Constant (.str txt) j p3] (PySem.W.ksEnv qual scope L f (.ref cda) cc) = [(false, eval (.Constant (.str txt) j p3) (PySem.W.ksEnv qual scope L f (.ref cda) cc))] := by intro _; rfl) :
    FnOk P w K mg base (L2N.CX P w) (k + 1) f fd ps (spX C n fs) := by
  subst hps
  obtain ⟨oc, od, dV, kV, doc, pm, an, ct, osl, rfl, lk⟩ := XI.fn
  obtain ⟨ccl, cdd, cvs, ccs, file, tf, hcode, hvs, hfile⟩ := XI.fl
  obtain ⟨cl, cld, csl, hcell⟩ := XI.cell
  obtain ⟨cdC, ddC, slC, hcls, hClk⟩ := oexC_cd XI.T
  have len : ∀ vs H Q E, spX C n fs vs H Q E → vs.length = (self :: fs).length := fun vs H Q E ⟨a, H1, ws, e, _, _, l, _⟩ => by
    rw [e, List.length_cons, List.length_cons, l, hlen]
  refine ⟨len, fun A outer s H args us vs Q E hr e0 hbi r hsp => ?_⟩
  have hl := len _ _ _ _ hsp
  obtain ⟨a, H1, ws, rfl, rfl, ha, hwl, q⟩ := hsp
  have KX : K.In s.heap := e0.mod.kin.keeps fun b o e => (e0.bs b o e).1
  have lim : s.heap.NoLimit := e0.mod.nolimit.keeps fun b o e => (e0.bs b o e).1
  refine ks_codeAny_call_defAt (binds := (self :: fs).zip us) (body := body) hr.depth (KX _ _ lk) rfl lim (PySem.W.codeRec_of KX XI.cd) rfl hbi S.nocell (fun ⟨m, _⟩ hy => S.par m (List.of_mem_zip hy).1) (fun h₁ hns kp => ?_) S.co S.gen S.kind
  have hbase : K.In base := e0.mod.kin
  have hcB : base.get? cc = some ⟨cl, cld, .cell (some (.ref C)), csl⟩ := hbase _ _ hcell
  have CA : NdefX.CellsAt [("__class__", cc)] ["__class__"] [none] s.heap (upd H1 a (exo a C none)) := by
    refine ⟨rfl, fun y c e => ?_, fun x y c e1 e2 => ?_, fun i y e => ?_⟩
    · have hc : c = cc := by
        have := PySem.mem_of_lookup e
        simpa using (Prod.mk.inj (List.mem_singleton.mp this)).2
      subst hc
      exact ⟨(e0.bs _ _ hcB).2, _, _, (e0.bs _ _ hcB).1, rfl⟩
    · have h1 := (Prod.mk.inj (List.mem_singleton.mp (PySem.mem_of_lookup e1))).1
      have h2 := (Prod.mk.inj (List.mem_singleton.mp (PySem.mem_of_lookup e2))).1
      exact h1.trans h2.symm
    · cases i with
      | zero =>
        simp only [List.getElem?_cons_zero, Option.some.injEq] at e
        subst e
        exact ⟨cc, rfl, fun v z => by simp at z⟩
      | succ i => simp at e
  have I := NdefX.inv_startN (CX := L2N.CX P w) (f := f) (E := E) (F := ⟨nm, qual, params, body, scope, [("__class__", cc)], cda⟩) (tk := s.toks + ((self :: fs).zip us).length) S hr.hd e0 hl r CA hns kp
  obtain ⟨u0, us', rfl, ru0⟩ : ∃ u0 us', us = u0 :: us' ∧ L2.RelV (.ref a) u0 := by
    cases r with
    | cons r1 r2 => exact ⟨_, _, rfl, r1⟩
  obtain rfl : u0 = Value.ref a := ru0
  have hv : ((self :: fs).zip (Value.ref a :: us')).reverse.lookup self = some (.ref a) := by
    have nd : (self :: fs).Nodup := by
      have q := S.nd.sublist (List.take_sublist ((self :: fs).length + (["__class__"] : List Str).length) N)
      rw [S.pre] at q
      exact (List.nodup_append.mp q).1
    exact NdefX.zip_look (i := 0) nd rfl rfl
  have ea : (upd H1 a (exo a C none)) a = some (exo a C none) := upd_same
  subst hbody
  refine ks_wpAt_execs_cons (ks_wpAt_Expr_any (ks_wpAt_MethodCall (pl := pl) ?_ (hea _)) (hin _) (hsw _))
  refine ks_wpAt_super_base (f := f) (cc := cda) (ar := ar) hsk (S.frk _ List.mem_cons_self) rfl rfl (I.kIn _ _ lk) rfl har rfl (I.kIn _ _ hcode) rfl hvs hfile htop ?_
  obtain ⟨mb, hmb, hmb2⟩ := I.mod.blt
  refine PySem.W.ks_loadName_global S.kind hsk (PySem.Calls.loadGlobal_builtin (I.mod.glob.keeps I.bk) hmg (hmb.keeps I.bk) ((hmb2 "super" (by decide)).trans hv_super) ⟨rfl, ?_⟩)
  refine wpAny_loadName_free S.kind (S.frk _ List.mem_cons_self) rfl ⟨_, I.kIn _ _ hcell, rfl⟩ ?_
  refine wpAny_loadName_local S.kind (by rw [hself]; exact S.par _ List.mem_cons_self) hns (by rw [hself]; exact hv) ?_
  refine ks_wpAny_isType_cls (I.kIn _ _ hClk) rfl ⟨rfl, ?_⟩
  obtain ⟨t1, hat⟩ := exo_at I.hok ea
  refine ks_wpAny_call_super (I.kIn _ _ hClk) rfl hat rfl (fun c z => nomatch z) (PySem.W.looks_mroIn I.kIn XI.me) fun h2 hso kp2 => ?_
  have I2 := I.kept (t' := s.toks + ((self :: fs).zip (Value.ref a :: us')).length) kp2
  have hmr : PySem.W.Looks (model P w) h2 (mroOf (.ref C)) cdC.mro := fun A Q E s k q => wpAny_bind ((PySem.W.looks_clsIn I2.kIn hcls) A _ E s k (wpAny_pure q))
  have hsup := XI.sup
  unfold PySem.W.ks_superIn at hsup
  rw [hcls] at hsup
  have hat2 := kp2 _ _ hat
  have hIA : PySem.W.InstAt h2 a { cls := .ref C, dict := none, data := .fields #[.ref t1, .none, .none, .none, .bool false, .none] } C none := ⟨hat2, rfl, rfl, trivial⟩
  refine PySem.W.kxs_getMethod PySem.W.kxs_ValueError hso (PySem.W.looks_opaque I2.kIn XI.thi) hmr rfl I2.kIn hsup (hIA.type.andThen (PySem.W.looks_subIn I2.kIn XI.ve)) (PySem.W.ks_ne I2.kIn hIA hcls) (by decide) ?_
  have kp3 : ∀ b o, h2.get? b = some o → (h2.push (PySem.W.kxs_mw "ValueError.__init__" a)).get? b = some o := fun b o e => Heap.get?_push_of_some _ e
  have hu : (h2.push (PySem.W.kxs_mw "ValueError.__init__" a)).get? h2.objs.size = some (PySem.W.kxs_mw "ValueError.__init__" a) := Heap.get?_push_size _ rfl
  have I3 := I2.kept (t' := s.toks + ((self :: fs).zip (Value.ref a :: us')).length + 1) kp3
  have I4 := I3.pins_of (pins' := [(h2.objs.size, PySem.W.kxs_mw "ValueError.__init__" a)]) fun p hp => by
    obtain rfl := List.mem_singleton.mp hp
    exact ⟨hu, I2.hok.fresh (Nat.le_refl _), Nat.ne_of_gt I2.lt, I2.nofs (Nat.le_refl _), fun v z => nomatch z⟩
  refine callWith_kxs (i := "ValueError.__init__") (u := h2.objs.size) (x := a) ?_ (hst _) rfl
  have ha1 := (pa_cons (pe_str (x := txt) (j := j) (pos := p3)) pa_nil (hst s.heap.objs.size)).run p4 _ _ _ _ (fun vs H2 => vs.length ≤ sizeLine ∧ H2 = upd H1 a (exo a C none)) I4 ⟨by rw [sizeLine_eq]; simp, rfl⟩
  refine wpAny_mono ha1 (fun us2 s2 ⟨vs, H2, I5, r5, hl5, e5⟩ => ?_) fun e s' z => z
  subst e5
  have hu5 := (I5.pin (h2.objs.size, PySem.W.kxs_mw "ValueError.__init__" a) (List.mem_append_right _ List.mem_cons_self)).1
  refine ⟨hu5, ?_⟩
  refine kxs_done XI.T I5 ea hu5 (by rw [← r5.length]; exact hl5) fun s' I6 => ?_
  refine PySem.wpAt_of_wpAny ?_
  have I' := I6.unpinned (pins := []) 
  refine wpAny_mono ((hb A outer s (upd H1 a (exo a C none)) E).run [] _ _ _ { nx := fun _ H' => Q .non H', rt := fun _ _ => False } I' (ht a ws H1 _ _ rfl (fun i v hi => ?_) hwl ha fun d H2 σ' k1 k2 k3 k4 k5 => q d H2 k1 k2 k3 k4 k5)) (fun fl s' hs => ?_) fun e s' hs => hs
  · unfold NdefX.startF
    have hi2 := (List.getElem?_eq_some_iff.mp hi).1
    rw [List.getElem?_append_left (by simpa using hi2)]
    simp [hi]
  · cases fl with
    | next =>
      obtain ⟨σ', H', J, q⟩ := hs
      exact ⟨.non, H', J.os, J.bare, J.base, J.hok, rfl, q⟩
    | ret u =>
      obtain ⟨_, _, _, _, _, q⟩ := hs
      exact q.elim
    | brk =>
      obtain ⟨_, _, _, q⟩ := hs
      exact False.elim q
    | cont =>
      obtain ⟨_, _, _, q⟩ := hs
      exact False.elim q
end
variable [WI]
section
variable {X : Cx} [CW X] {CX : CXT} {x : Str} {C fI : Addr} {k : Nat} {fd : FuncData} {ps : List Str} {sp : Sp} {e : Expr} {es : List Expr} {ta : TA} {p pos : Pos}
/-- C(e, ..) makes an error that came out of nothing -/
theorem pmkN (T : OexC X.K C) (iC : PySem.W.findIn X.K (.ref C) "__init__" = some (some (.ref fI))) (tI : PySem.W.typeIn X.K (.ref fI) = some (.type "function"))
    (F1 : FnOk X.prog X.w X.K X.mg X.base CX k fI fd ps sp) (hr : Room (k + 1) X.A) (hb : Binds X.K fd ps []) (hx : Passes CX X (fun _ _ _ => False)) (hg : Gl X x) (hm : X.mg x = some (.ref C)) (ha : PA X (e :: es) ta)
    (hdb : (x == ("__debug__" : Str)) = false) (he : starEach (e :: es) X.env = (false, eval e X.env) :: starEach es X.env) (hpl : (backTo pos (starEach es X.env)).any (·.1) = false) :
    L2N.PMk X (.Call (.Name x p) (e :: es) [] pos) (tMkO C sp [] ta) := by
  intro pins s0 σ H Q I h
  have key : ∀ (us : List Value) (s : Shared), (∃ (vs : List V) (H1 : Hp), Inv X pins σ H1 s ∧ Vals vs us ∧ vs.length ≤ 1000 ∧ ∀ a, H1 a = none → sp (.ref a :: (vs ++ [])) (upd H1 a (exo a C none))
      (fun v H2 => v = .non ∧ ∃ (d : Addr) (fs : List (Str × V)), H2 a = some (exo a C (some d)) ∧ H2 d = some (exd d fs) ∧ H1 d = none ∧ Q (.ref C) (some d) (upd (del H2 a) d (.xd fs))) (fun _ _ _ => False)) →
      wpAny (model X.prog X.w) X.A (PySem.call (.ref C) us) (L2N.MkP X pins σ Q) X.xe s := by
    rintro us ⟨hp, g, dr, tk, os⟩ ⟨vs, H1, I1, r1, hz, q1⟩
    obtain ⟨nm, q, N, bs, bm, sn, sub, ab, col, dd, k0, k1, k2, k3, k5, hC, hbm⟩ := T.cls
    have hus : us.length ≤ sizeLine := by
      rw [← Paired.length r1, sizeLine_eq]
      omega
    have hsz : hp.objs.size ≤ hp.objs.size + 1 := Nat.le_add_right _ _
    have hq := q1 _ (I1.hok.fresh hsz)
    rw [List.append_nil] at hq
    have kk : ∀ b o, hp.get? b = some o → ((hp.push (PySem.W.kdv_tup us)).push (PySem.HandSPX.excO C hp.objs.size)).get? b = some o := fun b o z => Heap.get?_push_of_some _ (Heap.get?_push_of_some _ z)
    have new : ObjOk X.prog X.w (upd H1 (hp.objs.size + 1) (exo (hp.objs.size + 1) C none)) ((hp.push (PySem.W.kdv_tup us)).push (PySem.HandSPX.excO C hp.objs.size)) (hp.objs.size + 1) (exo (hp.objs.size + 1) C none) := exo_ok (t1 := hp.objs.size) (by heap_get)
    have I2 : Inv X pins σ _ ⟨_, g, dr, tk, os⟩ := I1.laid (t' := tk) kk hsz new
    have r2 : Vals (V.ref (hp.objs.size + 1) :: vs) (Value.ref (hp.objs.size + 1) :: us) := .cons rfl r1
    have hl2 := r2.length.symm.trans (F1.len _ _ _ _ hq)
    have b2 := hb _ (Value.ref (hp.objs.size + 1) :: us) I2.kIn (by rw [List.append_nil]; exact hl2)
    rw [List.append_nil] at b2
    have run := F1.run (X.A.under (.builtin "type.__call__" ⟨.ref C :: us, []⟩)) X.stack _ _ ⟨_, []⟩ _ _ _ _ (hr.make C us []) (I2.env0.make C us []) b2 r2 hq
    refine wpAny_call (PySem.HandSPX.call_own PySem.F.excBase_ValueError (fun Y => PySem.HandSPX.refsVE_contains Y bm hbm) (I1.kIn _ _ hC) (PySem.W.looks_findIn I1.kIn iC) (fun self => PySem.W.bind_fn I1.kIn self tI) hus (codeAny_mono run ?_))
    intro r s' hq'
    match r, hq' with
    | .error er, z => exact hx pins σ _ _ er s' I2 z
    | .ok (.ret u), z =>
      obtain ⟨v, H2, os2, bare2, un2, hok2, rv, ev, d, fs, ea, ed, hd1, q2⟩ := z
      subst ev
      obtain ⟨h2, g2, d2, t2, os'⟩ := s'
      obtain ⟨t0, G, J, kG, ge, hoe, na⟩ := mk_end0 (d2 := d2) (t2 := t2) I1 hsz kk un2 hok2 os2 bare2 ea ed hd1
      refine ⟨rv, ?_⟩
      exact ⟨_, _, _, ⟨G, g2, d2, t2, os'⟩, _, _, some d, rfl, J, kG, ge, hoe, ⟨rfl, rfl, fun ws hv => by cases hv <;> rfl⟩, rfl, rfl, na, rfl, bare2, raises_own T.exC T.tyC, q2⟩
    | .ok .next, z => exact False.elim z
    | .ok .brk, z => exact False.elim z
    | .ok .cont, z => exact False.elim z
  refine wpAny_Call_Name_kw (ld_glob I hg hm ?_ hdb)
  refine PySem.W.callWith_K (h₀ := X.base) I.ok.mod.kin T.kC (thn (ha.run pos pins s0 σ H _ I h) fun us s1 hh => ?_) he hpl
  obtain ⟨vs, H1, I1, r1, z⟩ := hh
  exact ⟨I1.kIn, key us s1 ⟨vs, H1, I1, r1, z⟩⟩
end
end Py
/-! Errors of own classes: what the head tells of them, raise. -/
namespace Py
open PySem L2
open He (Fa DefD Tab FnW)
/-! ### facts -/
theorem oexB_ok {c : String} {K : Frag} (h : oexB c K = true) : ∃ nm q N bs bm sn sub ab col dd k0 k1 k2 k3 k5, K.lookup (ca K c) = some (excClassObj nm q (ca K c) N bs bm true sn sub ab col dd k0 k1 k2 k3 k5 "ValueError.__new__") ∧ PySem.HandSPX.refsVE bm = true := by
  unfold oexB at h
  split at h
  · rename_i dd cd sl ho
    split at h
    · rename_i C' bm k0 k1 k2 k3 n k5 hm hs
      simp only [Bool.and_eq_true, decide_eq_true_eq, Bool.not_eq_true'] at h
      obtain ⟨h1, h2, h3, h4, h5⟩ := h
      obtain ⟨nm, bs, mro, ns, qn, hd, sn, sub, ab, col, del⟩ := cd
      dsimp only at hm h3 h4
      subst hm h3 h4 h1 h2
      have hsl : sl = #[k0, k1, k2, k3, some (.builtin "ValueError.__new__"), k5] := by
        obtain ⟨l⟩ := sl
        simp only at hs
        rw [hs]
      subst hsl
      exact ⟨nm, qn, ns, bs, bm, sn, sub, ab, col, dd, k0, k1, k2, k3, k5, ho, h5⟩
    · cases h
  · cases h
structure ErrF (P : Program) (K : Frag) (c : String) (nm qual : Str) (params : Arguments) (body : List Stmt) (scope : Scope) (fs : List String) : Prop where
  xin : ∃ cc cda fd, XIn P K (ca K c) (He.ma K (ca K c) "__init__") cc cda nm qual params body scope fd ∧ ∃ kV doc pm an ct, fd = PySem.W.ksFn nm qual params body scope .none kV doc pm an (.ref cda) ct cc
  ini : PySem.W.findIn K (.ref (ca K c)) "__init__" = some (some (.ref (He.ma K (ca K c) "__init__")))
  typ : PySem.W.typeIn K (.ref (He.ma K (ca K c) "__init__")) = some (.type "function")
  no : ∀ f ∈ fs, PySem.W.findIn K (.ref (ca K c)) (Str.ofString f) = some none
theorem err_f {P : Program} {K : Frag} {c : String} {d : DefD} {file : Str} {fs : List String} (hat : d.at_ = (Str.ofString c, some ("__init__" : Str))) (hf : ((P.main.file : Str) == file) = true) (e : fnWx K d.at_ = d.val) (h : errB file c d.qual fs K = true) : ErrF P K c d.name d.qual d.params d.body d.scope fs := by
  unfold errB at h
  simp only [Bool.and_eq_true, decide_eq_true_eq, List.all_eq_true] at h
  obtain ⟨hc, ho, h1, h2, h3, h4, h5, h6, h7, h8, h9, h10, h11⟩ := h
  have hfa : He.fAd K d.at_ = He.ma K (ca K c) "__init__" := by rw [hat] <;> rfl
  unfold cloB at hc
  unfold fnWx at e
  rw [hfa] at e
  cases q : K.lookup (He.ma K (ca K c) "__init__") with
  | none =>
    rw [q] at hc
    cases hc
  | some o =>
    obtain ⟨oc, od, dt, osl⟩ := o
    rw [q] at hc e
    cases dt with
    | func fd =>
      obtain ⟨n1, n2, n3, n4, n5, n6, n7, n8, n9, n10, n11, n12, n13, n14, n15⟩ := fd
      have e2 : (some (n1, n2, n3, n4, n5, n6, [], n15) : FnW) = some (d.name, d.qual, d.params, .stmts d.body, d.scope, mainGlobals, [], builtinsNs) := e
      simp only [Option.some.injEq, Prod.mk.injEq, true_and] at e2
      obtain ⟨g1, g2, g3, g4, g5, g6, g8⟩ := e2
      subst g1 g2 g3 g4 g5 g6 g8
      dsimp only at hc
      split at hc
      · rename_i cda y cc
        simp only [Bool.and_eq_true, decide_eq_true_eq] at hc
        obtain ⟨c1, c2, c3, c4, c5⟩ := hc
        subst c1 c2
        split at c4
        · rename_i cl cld D csl hcell
          have hD : D = ca K c := of_decide_eq_true c4
          subst hD
          split at c5
          · rename_i ccl cdd vs ccs hcode
            split at c5
            · rename_i z tf hz
              have hz2 : z = file := of_decide_eq_true c5
              subst hz2
              exact ⟨⟨cc, cda, _, ⟨⟨oc, od, _, n9, n10, n11, n12, n14, osl, rfl, q⟩, c3, ⟨ccl, cdd, vs, ccs, z, tf, hcode, hz, hf⟩, ⟨cl, cld, csl, hcell⟩, ⟨oexB_ok ho, h1, h2, h3, h4⟩, h5, h6, h7, h8⟩, n9, n10, n11, n12, n14, rfl⟩, h9, h10, h11⟩
            · cases c5
          · cases c5
        · cases c4
      · cases hc
    | _ => cases hc
variable [WI]
/-- the name c makes an error that keeps what it is given under the names ns -/
structure ErrOk (P : Program) (w : World) (K : Frag) (mg : Str → Option Value) (base : Heap) (k : Nat) (c : String) (ns : List String) : Prop where
  ex : ∃ f fd ps, mg (Str.ofString c) = some (.ref (ca K c)) ∧ OexC K (ca K c) ∧ PySem.W.findIn K (.ref (ca K c)) "__init__" = some (some (.ref f)) ∧ PySem.W.typeIn K (.ref f) = some (.type "function") ∧ Binds K fd ps [] ∧
    FnOk P w K mg base (L2N.CX P w) k f fd ps (spX (ca K c) ns.length (ns.map Str.ofString))
/-! ### its fields, laid one behind another -/
section
variable {K : Frag} {f g : Str} {C : Addr}
theorem fld_two (T : OexC K C) (hno : PySem.W.findIn K (.ref C) f = some none) (hno2 : PySem.W.findIn K (.ref C) g = some none) {a : Addr} {ws : List V} {H1 : Hp} {D : Ends} {σ : L2.St} (h0 : σ[0]? = some (some (.ref a))) (h1 : ∀ i v, ws[i]? = some v → σ[i + 1]? = some (some v)) (hl : ws.length = 2) (hn : H1 a = none)
    (q : ∀ d H2 σ', H2 a = some (exo a C (some d)) → H2 d = some (exd d (([f, g] : List Str).zip ws).reverse) → H1 d = none → d ≠ a → (∀ b, b ≠ a → b ≠ d → H2 b = H1 b) → D.nx σ' H2) : tSeq (tOst K f (tVar 0) (tVar 1)) (tOst K g (tVar 0) (tVar 2)) D σ (upd H1 a (exo a C none)) := by
  match ws, hl with
  | [v, w], _ =>
    refine ⟨v, h1 0 v rfl, _, h0, a, C, rfl, T, hno, .inl ⟨upd_same, fun dx hdx hne => ?_⟩⟩
    have hdx2 : H1 dx = none := by
      rw [upd_ne hne] at hdx
      exact hdx
    refine ⟨w, h1 1 w rfl, _, h0, a, C, rfl, T, hno2, .inr ⟨dx, [(f, v)], upd_same, ?_, by simp, q dx _ σ ?_ ?_ hdx2 hne fun b hb hd => ?_⟩⟩
    · rw [upd_ne hne, upd_same]
    · rw [upd_ne hne.symm, upd_same]
    · rw [upd_same]
      rfl
    · rw [upd_ne hd, upd_ne hb, upd_ne hd, upd_ne hb]
end
theorem ErrF.T {P : Program} {K : Frag} {c : String} {nm qual : Str} {params : Arguments} {body : List Stmt} {scope : Scope} {fs : List String} (F : ErrF P K c nm qual params body scope fs) : OexC K (ca K c) := by
  obtain ⟨⟨cc, cda, fd, XI, _⟩, _⟩ := F
  exact XI.T
/-! ### raise -/
theorem RepF.append {K : Frag} {A : AS} {H : Hp} : ∀ {fs gs : List (String × D)} {us vs : List (Str × V)}, RepF K A H fs us → RepF K A H gs vs → RepF K A H (fs ++ gs) (us ++ vs)
  | [], gs, us, vs, h, k => by
    simp only [RepF] at h
    subst h
    exact k
  | (n, d) :: fs, gs, us, vs, h, k => by
    simp only [RepF] at h
    obtain ⟨v, r, rfl, h1, h2⟩ := h
    simp only [List.cons_append, RepF]
    exact ⟨v, r ++ vs, rfl, h1, RepF.append h2 k⟩
theorem repF_zip {K : Frag} {A : AS} {H : Hp} : ∀ {ns : List String} {ds : List D} {vs : List V}, RepL K A H ds vs → RepF K A H (ns.zip ds).reverse ((ns.map Str.ofString).zip vs).reverse
  | [], ds, vs, h => by simp [RepF]
  | n :: ns, [], vs, h => by
    simp only [RepL] at h
    subst h
    simp [RepF]
  | n :: ns, d :: ds, vs, h => by
    simp only [RepL] at h
    obtain ⟨v, r, rfl, h1, h2⟩ := h
    simp only [List.zip_cons_cons, List.map_cons, List.reverse_cons]
    refine RepF.append (repF_zip h2) ?_
    simp only [RepF]
    exact ⟨v, [], rfl, h1, rfl⟩
section
variable {fr : Rm} {X : Cx} [CW X] {W : WX} {ow oN oB : Ow} {e : Expr} {es : List Expr} {am : AM} {pos p rpos : Pos} {k j : Nat} {c : String} {ns : List String}
theorem s_raise (T : Ctx X W j) (C : ErrOk X.prog X.w X.K X.mg X.base k c ns) (hk : k + 1 ≤ j) (hg : Gl X (Str.ofString c)) (ha : PA X (e :: es) (aE X.K W ow am)) (hz : ns.length ≤ 1000 := by decide)
    (hdb : (Str.ofString c == ("__debug__" : Str)) = false := by decide) (he : starEach (e :: es) X.env = (false, eval e X.env) :: starEach es X.env := by rfl) (hpl : (backTo pos (starEach es X.env)).any (·.1) = false := by rfl) :
    PS X (.Raise (some (.Call (.Name (Str.ofString c) p) (e :: es) [] pos)) none rpos) (tS3 fr X.K W ow oN oB (rais c ns am)) := by
  obtain ⟨f, fd, ps, hm, TO, hi, ht, hb, F⟩ := C.ex
  refine PS.of (L2N.ps_raise T.calm T.tk (pmkN TO hi ht F (T.hr.mono hk) hb passLN hg hm ha hdb he hpl)) fun D σ H ⟨A, H0, O, en, R, q⟩ => ?_
  refine ⟨A, H0, O, en, R, ((Out.bind (show Out (am en >>= fun ds => if ds.length = ns.length then (Res.exc c (ns.zip ds).reverse : Res Fl) else .stuck) _ _ from q)).se R).good fun ds q1 vs H1 s1 r1 => ?_⟩
  have r2 := paired_rep r1
  by_cases hl : ds.length = ns.length
  · rw [if_pos hl] at q1
    refine ⟨by rw [← r2.length, hl]; exact hz, fun a hn => ⟨a, H1, vs ++ [], by simp, rfl, hn, by simp [← r2.length, hl], fun d H2 k1 k2 k3 k4 k5 => ⟨rfl, d, _, k1, k2, k3, ?_⟩⟩⟩
    have sm : Same H1 (upd (del H2 a) d (.xd ((ns.map Str.ofString).zip (vs ++ [])).reverse)) := fun b o eb => by
      have hba : b ≠ a := ne_of_none eb hn
      have hbd : b ≠ d := ne_of_none eb k3
      rw [upd_ne hbd, del_ne hba, k5 b hba hbd]
      exact eb
    refine (show badS X.K W A H0 c (ns.zip ds).reverse from q1) σ d _ _ (R.same.trans (s1.trans sm)) upd_same ?_
    have r3 : RepL X.K A (upd (del H2 a) d (.xd ((ns.map Str.ofString).zip (vs ++ [])).reverse)) ds (vs ++ []) := by
      have r4 : RepL X.K A _ ds vs := RepL.move (Mv.less (A := AO A O) (A' := A) fun b hb => Or.inl hb) ds vs (RepL.move (Mv.same sm) ds vs r2)
      simpa using r4
    exact repF_zip r3
  · rw [if_neg hl] at q1
    exact q1.elim
end
end Py
/-! Within an except suite, and within what is called there. -/
namespace Py
variable [WI]
open PySem L2 L2H
structure CtxH (X : Cx) (W : WX) (k : Nat) : Prop where
  tk : L2N.Takes X W
  po : PassesOwn (model X.prog X.w) X.A X.env X.xe
  hr : RoomH k X.A
  hot : HotC X
  nd : X.N.Nodup
theorem CtxH.eq {X : Cx} [CW X] {W : WX} {k : Nat} (T : CtxH X W k) : OpR X (compareOp .Eq) (r2 X.K oeq) := y_eq (by have := T.hr.un; omega)
theorem CtxH.ne {X : Cx} [CW X] {W : WX} {k : Nat} (T : CtxH X W k) : OpR X (compareOp .NotEq) (r2 X.K one) := y_ne (by have := T.hr.un; omega)
/-! ### loops over a range -/
/-! ### calls -/
theorem FnH.mono {P : Program} {w : World} {K : Frag} {mg : Str → Option Value} {base : Heap} {CX : CXT} {j k : Nat} {f : Addr} {fd : FuncData} {ps : List Str} {sp : Sp} (F : FnH P w K mg base CX j f fd ps sp) (h : j ≤ k) : FnH P w K mg base CX k f fd ps sp :=
  ⟨F.len, fun A outer s H args us vs Q E p hr => F.run A outer s H args us vs Q E p (hr.mono h)⟩
end Py
/-! try .. except X as e, and what is asked of e. -/
namespace Py
open PySem L2 L2H
/-! ### facts -/
def xcV (K : Frag) (t : String) : V := if t = "ValueError" then .ty "ValueError" else .ref (ca K t)
/-! ### the body: an error leaves the names as they are -/
variable [WI]
/-! ### try -/
end Py
/-! What a suite asks of the caught error: isinstance, fields. -/
namespace Py
open PySem L2 L2H
open He (Fa DefD Tab FnW)
/-- a tuple of classes as written, by names -/
inductive XcL (X : Cx) : List Expr → List String → TA → Prop
  | nil : XcL X [] [] tNil
  | cons {e : Expr} {es : List Expr} {t : String} {ts : List String} {r : TA} (h : PE X e (tC (xcV X.K t))) (k : XcL X es ts r) (hs : starEach (e :: es) X.env = (false, eval e X.env) :: starEach es X.env) : XcL X (e :: es) (t :: ts) (tCons (tC (xcV X.K t)) r)
theorem XcL.pa [WI] {X : Cx} [CW X] {es : List Expr} {ts : List String} {r : TA} (h : XcL X es ts r) : PA X es r := by
  induction h with
  | nil => exact pa_nil
  | cons h _ hs ih => exact pa_cons h ih hs
theorem XcL.run [WI] {X : Cx} [CW X] {es : List Expr} {ts : List String} {r : TA} (h : XcL X es ts r) : ∀ {σ : L2.St} {H : Hp} {Q : List V → Hp → Prop}, Q (ts.map (xcV X.K)) H → r σ H Q := by
  induction h with
  | nil => exact fun q => q
  | cons h _ hs ih => exact fun q => ih (Q := fun xs H2 => _) q
/-! ### an error's __init__, by the head -/
section
variable [WI] {P : Program} {w : World} [HW w] {K : Frag} {mg : Str → Option Value} {base : Heap} {nm qual self txt : Str} {params : Arguments} {body rest : List Stmt} {scope : Scope} {N ps : List Str} {k : Nat} {ar : Arg} {c : String} {ns : List String}
theorem err_ok (F : ErrF P K c nm qual params body scope ns) (g : mg (Str.ofString c) = some (.ref (ca K c))) (hmg : mg "super" = none) (htop : (P.main.scope.names.lookup ("super" : Str)).isSome = false) (hps : ps = self :: ns.map Str.ofString) (S : NdefX.NScope N ps ["__class__"] scope)
    (har : (params.posonlyargs ++ params.args).head? = some ar) (hself : ar.arg = self) (hsk : scope.names.lookup ("super" : Str) = some .globalImplicit) {p0 p1 p2 p3 p4 p5 : Pos} {j : Nat}
    (hbody : body = .Expr (.Call (.Attribute (.Call (.Name "super" p0) [] [] p1) "__init__" p2) [.Constant (.str txt) j p3] [] p4) p5 :: rest)
    (hbind : ∀ (kV doc pm : Value) (an : Option Addr) (cdv ct : Value) (cc : Addr) (us : List Value), us.length = ps.length → bindArgs (PySem.W.ksFn nm qual params body scope .none kV doc pm an cdv ct cc) ⟨us, []⟩ = pure (ps.zip us))
    {t : TS} (hb : ∀ (f cc cda : Addr) (A : Around) (outer : List PySem.Env) (s : Shared) (H : Hp) (E : XK), PSs (NdefX.ncx (L2N.CX P w) P w K mg base N ⟨nm, qual, params, body, scope, [("__class__", cc)], cda⟩ f A outer s H E) rest t)
    (ht : ∀ (a : Addr) (ws : List V) (H1 : Hp) (Dn : Ends) (σ : L2.St), σ[0]? = some (some (.ref a)) → (∀ i v, ws[i]? = some v → σ[i + 1]? = some (some v)) → ws.length = ns.length → H1 a = none →
      (∀ d H2 σ', H2 a = some (exo a (ca K c) (some d)) → H2 d = some (exd d ((ns.map Str.ofString).zip ws).reverse) → H1 d = none → d ≠ a → (∀ b, b ≠ a → b ≠ d → H2 b = H1 b) → Dn.nx σ' H2) → t Dn σ (upd H1 a (exo a (ca K c) none)))
    (hin : ∀ (L f cda cc : Addr), interactive (PySem.W.ksEnv qual scope L f (.ref cda) cc) = false)
    (hsw : ∀ (L f cda cc : Addr), swapsWith (.Call (.Attribute (.Call (.Name "super" p0) [] [] p1) "__init__" p2) [.Constant (.str txt) j p3] [] p4) none p5.line (PySem.W.ksEnv qual scope L f (.ref cda) cc) = pure false)
    {pl : Addr → Addr → Addr → Sem Bool} (hea : ∀ (L f cda cc : Addr), eval (.Call (.Attribute (.Call (.Name "super" p0) [] [] p1) "__init__" p2) [.Constant (.str txt) j p3] [] p4) (PySem.W.ksEnv qual scope L f (.ref cda) cc) = (do
      let ov ← attributeBase (.Call (.Name "super" p0) [] [] p1) "__init__" (PySem.W.ksEnv qual scope L f (.ref cda) cc) (eval (.Call (.Name "super" p0) [] [] p1) (PySem.W.ksEnv qual scope L f (.ref cda) cc))
      standAt p2.atName
      let (g, first) ← holding [ov] (getMethod ov "__init__" (pl f cda cc))
      callWith p4 g first (backTo p4 (starEach [.Constant (.str txt) j p3] (PySem.W.ksEnv qual scope L f (.ref cda) cc))) []))
    (hst : ∀ (L f cda cc : Addr), starEach [.Constant (.str txt) j p3] (PySem.W.ksEnv qual scope L f (.ref cda) cc) = [(false, eval (.Constant (.str txt) j p3) (PySem.W.ksEnv qual scope L f (.ref cda) cc))]) :
    ErrOk P w K mg base (k + 1) c ns := by
  obtain ⟨⟨cc, cda, fd, XI, kV, doc, pm, an, ct, hfd⟩, hini, htyp, hno⟩ := F
  refine ⟨_, fd, ps, g, XI.T, hini, htyp, ?_, ?_⟩
  · rw [hfd]
    exact .all (hbind kV doc pm an _ ct cc)
  · exact xinit_ok XI hps (by simp) S har hself hmg hsk htop hbody (hb _ cc cda) ht (fun L => hin L _ _ _) (fun L => hsw L _ _ _) (fun L => hea L _ _ _) (fun L => hst L _ _ _)
end
/-! ### the hook, the facts -/
section
open He
theorem obsYG_eq {n : Nat} {more : Frag → Bool} {fa : List Fa} {fn xf : List DefD} {ts : List Tab} {g : Addr → Option Obj} {s : Shared} (h : ∀ a, g a = s.heap.get? a) : obsYG n more fa fn xf ts g = (hookY n more fa fn xf ts).obs s := by
  have e : g = s.heap.get? := funext h
  rw [e] <;> rfl
end
structure FactsY (fa : List Fa) (fn xf : List DefD) (ts : List Tab) (ms : List (Frag → Bool)) (file : Str) (P : Program) (w : World) (K : Frag) (mg : Str → Option Value) : Prop extends Facts fa fn ts ms w K mg where
  x : (xf.map fun d => fnWx K d.at_) = xf.map DefD.val
  pf : ((P.main.file : Str) == file) = true
  ps : (P.main.scope.names.lookup ("super" : Str)).isSome = false
section
variable {fa : List Fa} {fn xf : List DefD} {ts : List Tab} {ms : List (Frag → Bool)} {file : Str} {P : Program} {w : World} {K : Frag} {mg : Str → Option Value}
theorem FactsY.err (Y : FactsY fa fn xf ts ms file P w K mg) (i j : Nat) {d : DefD} {c : String} {fs : List String} (h : xf[i]? = some d := by rfl) (hat : d.at_ = (Str.ofString c, some ("__init__" : Str)) := by rfl) (hm : ms[j]? = some (errB file c d.qual fs) := by rfl) : ErrF P K c d.name d.qual d.params d.body d.scope fs := by
  refine err_f hat Y.pf ?_ (Y.toFacts.more j hm)
  have e2 : (xf.map fun d => fnWx K d.at_)[i]? = (xf.map DefD.val)[i]? := by rw [Y.x]
  rw [List.getElem?_map, List.getElem?_map, h] at e2
  exact Option.some.inj e2
end
end Py
/-! A tuple so many times. -/
/-! Lists and tuples walked within an except suite; except X as e for an own class X. -/
/-! Dict displays, list(range(..)), max and min of a list, starred items, extend. -/
namespace Py
variable [WI]
open PySem PySem.Spec PyProof.Rows L2
theorem Ctx.inn {X : Cx} [CW X] {W : WX} {k : Nat} (T : Ctx X W k) : OpR X (compareOp .In) (r2 X.K oin) := y_in (by have := T.hr.un; omega)
theorem Ctx.nin {X : Cx} [CW X] {W : WX} {k : Nat} (T : Ctx X W k) : OpR X (compareOp .NotIn) (r2 X.K onotin) := y_notin (by have := T.hr.un; omega)
theorem Ctx.ix {X : Cx} [CW X] {W : WX} {k : Nat} (T : Ctx X W k) : IxR X (r2 X.K oidx) := y_idx (by have := T.hr.un; omega)
theorem Ctx.st {X : Cx} [CW X] {W : WX} {k : Nat} (T : Ctx X W k) : PSet X (rSetX X.K) := set_any (by have := T.hr.un; omega)
theorem CtxH.inn {X : Cx} [CW X] {W : WX} {k : Nat} (T : CtxH X W k) : OpR X (compareOp .In) (r2 X.K oin) := y_in (by have := T.hr.un; omega)
theorem CtxH.nin {X : Cx} [CW X] {W : WX} {k : Nat} (T : CtxH X W k) : OpR X (compareOp .NotIn) (r2 X.K onotin) := y_notin (by have := T.hr.un; omega)
theorem CtxH.ix {X : Cx} [CW X] {W : WX} {k : Nat} (T : CtxH X W k) : IxR X (r2 X.K oidx) := y_idx (by have := T.hr.un; omega)
theorem CtxH.st {X : Cx} [CW X] {W : WX} {k : Nat} (T : CtxH X W k) : PSet X (rSetX X.K) := set_any (by have := T.hr.un; omega)
/-! ### {} and {k: v} -/
/-- nothing held -/
def emp : E3 := ([], #[], 0)
theorem dicT_stay {a : Addr} {es : E3} {P : Program} {w : World} {H : Hp} {h : Heap} (h1 : (a == sysModules) = false) (h2 : es.1.length ≤ sizeLine) {xs : List (NestedKey × Addr × Value)} (p : PT3 es.1 xs) {o : Obj}
    (g1 : h.get? a = some o) (g2 : o.ExactDict) (g3 : o.data = .dict es.2.1 es.2.2) (g4 : es.2.1.toList = xs.map (entW WI.w)) (g5 : (xs.map (·.1)).Nodup) : ObjOk P w H h a (dicT a es) := by
  refine ⟨⟨h1, h2, xs, p, o, g1, g2, g3, g4, g5⟩, ⟨o, g1⟩, ?_⟩
  rintro h1 h2 ⟨y1, y2, xs', y3, o', z1, z2⟩ hk2
  exact ⟨y1, y2, xs', y3, o', hk2 _ z1, z2⟩
theorem dicT_empty {P : Program} {w : World} {H : Hp} (h : Heap) (hb : sysModules < h.objs.size) : ObjOk P w H (h.push { cls := .type "dict", data := .dict #[] }) h.objs.size (dicT h.objs.size emp) :=
  dicT_stay (beq_eq_false_iff_ne.mpr (Nat.ne_of_gt hb)) (Nat.zero_le _) .nil (Heap.get?_push_size _ rfl) ⟨rfl, rfl, rfl⟩ rfl rfl List.nodup_nil
def tDic0 (t : Bool) : TE := fun _ H Q => ∀ p, H p = none → Q (.ref p) (upd H p (if t then dicT p emp else .dK []))
section
variable {X : Cx} [CW X] {W : WX} {ow : Ow} {k v : Expr} {mk mv : EM} {pos : Pos}
theorem pe_dic0 (t : Bool) : PE X (.Dict [] [] pos) (tDic0 t) := by
  cases t with
  | false => exact pe_dnewK
  | true => exact ⟨fun pins s σ H Q I h => wpAny_Dict_empty ⟨.ref s.heap.objs.size, _, I.laid (a := s.heap.objs.size) (o := dicT s.heap.objs.size emp) (t' := s.toks) (fun _ _ q => Heap.get?_push_of_some _ q) (Nat.le_refl _) (dicT_empty s.heap I.big), rfl, h _ (I.hok.fresh (Nat.le_refl _))⟩⟩
theorem f_dic0 (t : Bool) : PE X (.Dict [] [] pos) (tF X.K W ow (dic0 t)) :=
  PE.of (pe_dic0 t) fun σ H Q ⟨A, H0, O, en, R, q⟩ p hp => q p _ hp (new_same hp) (by
    cases t with
    | false => exact .inl ⟨rfl, [], upd_same, by simp [RepK]⟩
    | true => exact .inr ⟨rfl, emp, upd_same, by simp [RepT, emp]⟩)
theorem mv_disp {A : AS} {O : OW} {H2 : Hp} {p : Addr} {u o : HO} (e2 : H2 p = some u) (hu : ¬ still u) : Mv (AO (fun b => A b ∨ b = p) O) H2 (fun b => AO A O b ∨ b = p) (upd H2 p o) := ⟨fun b hb => .inl (by
    rcases hb with (hb | hb) | hb
    · exact .inl (.inl hb)
    · exact .inr hb
    · exact .inl (.inr hb)), fun b o' e hb => by
    rw [upd_ne]
    · exact e
    · intro z
      subst z
      rcases hb with hb | hb
      · exact hb (.inl (.inr rfl))
      · rw [e2] at e
        cases e
        exact hu hb⟩
theorem ER.aside {K : Frag} {A : AS} {H0 : Base} {O : OW} {σ : L2.St} {H : Hp} {e : Env} (R : ER K A H0 ow O σ H e) {p : Addr} {o : HO} (hp : H p = none) : ER K (fun b => A b ∨ b = p) H0 ow O σ (upd H p o) e :=
  R.more (fun b hb => by
    rcases hb with hb | hb
    · exact ne_none (new_same hp) (R.a0 b hb)
    · rw [hb, upd_same]
      exact fun z => nomatch z) (new_same hp) (fun b hb => hb.elim .inl fun z => by rw [z]; exact .inr hp) fun b hb => .inl hb
/-- errors within: seen from before -/
theorem badE.aside {K : Frag} {A : AS} {O : OW} {σ : L2.St} {H : Hp} {p : Addr} {o : HO} (hp : H p = none) {c : String} {fs : List (String × D)} (h : badE K W A O σ H c fs) : badE K W (fun b => A b ∨ b = p) O σ (upd H p o) c fs := fun da H' fvs s hd r =>
  h da H' fvs ((new_same hp).trans s) hd (RepF.move (Mv.less fun b hb => by
    rcases hb with hb | hb
    · exact .inl (.inl hb)
    · exact .inr hb) _ _ r)
def tDicT (tk tv : TE) : TE := fun σ H Q => ∀ p, H p = none → tk σ (upd H p (dicT p emp)) fun x H1 => tv σ H1 fun y H2 => H2 p = some (dicT p emp) ∧ ∃ (K : Frag) (A : AS) (kd : D) (c : NestedKey) (b : Addr), K = X.K ∧ x = .ref b ∧ keyOk true kd = true ∧ nk kd = some c ∧ Rep K A H2 kd x ∧ ∀ z, Q (.ref p) (upd H2 p (dicT p ([(c, b, y)], z)))
theorem pe_dicT {tk tv : TE} (hu : X.A.units + 16 < cLine) (hk : PE X k tk) (hv : PE X v tv) : PE X (.Dict [some k] [v] pos) (tDicT (X := X) tk tv) := by
  refine ⟨fun pins s σ H Q I q => ?_⟩
  have hn := I.hok.fresh (Nat.le_refl s.heap.objs.size)
  have I1 := I.laid (a := s.heap.objs.size) (o := dicT s.heap.objs.size emp) (h' := s.heap.push { cls := .type "dict", data := .dict #[] }) (t' := s.toks) (fun _ _ q => Heap.get?_push_of_some _ q) (Nat.le_refl _) (dicT_empty s.heap I.big)
  show wpAny (model X.prog X.w) X.A (eval (.Dict [some k] [v] pos) X.env) _ _ s
  rw [arm_eval_Dict, zip_pairTrees [some k] [v] X.env pos rfl rfl, dictDisplay_pairs _ (by simp [pairTrees]) (by simp [pairTrees])]
  refine wpAny_bind (wpAny_standAt (wpAny_bind (wpAny_subDictH (knd := nestedKind X.prog X.w) (Q := fun d s' => wpAny (model X.prog X.w) X.A (pure (Value.ref d)) _ _ s') (by show X.A.units + 8 < cLine; omega) (by simp [pairTrees]) ?_)))
  refine pairTrees_cons_walk (thn (hk.run pins _ σ _ _ I1 (q _ hn)) fun u s1 ⟨x, H1, I2, rx, q1⟩ => thn (hv.run pins s1 σ H1 _ I2 q1) fun w2 s2 ⟨y, H2, I3, ry, e, K, A, kd, c, b, eK, ex, hko, hc, rk, q2⟩ => pairTrees_nil_walk ?_)
  subst eK ex
  cases (show u = Value.ref b from rx)
  obtain ⟨z, hsm, xs, rel, dd, _⟩ := dic_rd (A := A) (kvs := []) I3 e (by simp [RepT, emp])
  cases rel
  refine ⟨[(c, b, w2)], ⟨rfl, rfl, is_of I3 hko hc rk, trivial⟩, dd, fun h' tk dd' hs => wpAny_pure ?_⟩
  obtain ⟨o0, en, ep, g1, g2, g3, g4, _, g5⟩ := dd'
  refine ⟨.ref s.heap.objs.size, _, ?_, rfl, q2 (en, ep)⟩
  refine d_write I3 (by rw [e]; exact True.intro) hs ⟨o0, g1⟩ (dicT_stay (es := ([(c, b, y)], en, ep)) hsm (by rw [sizeLine_eq]; simp) (xs := [(c, b, w2)]) (.cons ⟨rfl, rfl, ry⟩ .nil) g1 g2 g3 ?_ (by simp))
  have g4' : en.toList = [(c, b, w2)].map (entW X.w) := g4
  rw [g4', CW.eq (X := X)]
/-- {k: v}, k a tuple -/
theorem f_dicT (hu : X.A.units + 16 < cLine) (hk : PE X k (tE X.K W ow mk)) (hv : PE X v (tE X.K W ow mv)) : PE X (.Dict [some k] [v] pos) (tF X.K W ow (dic1 true mk mv)) :=
  PE.of (pe_dicT hu hk hv) fun σ H Q ⟨A, H0, O, en, R, q⟩ p hp => by
    have R' := R.aside (o := dicT p emp) hp
    refine ⟨_, H0, O, en, R', ((Out.bind q).imp (fun _ _ z => z) fun c fs z => badE.aside hp z).good fun kd q1 x H1 s1 r1 => ⟨_, H0, O, en, R'.to s1, (((Out.bind q1).imp (fun _ _ z => z) fun c fs z => badE.aside (o := dicT p emp) hp z).to s1).good fun vd q2 y H2 s2 r2 => ?_⟩⟩
    have e2 : H2 p = some (dicT p emp) := s2 _ _ (s1 _ _ upd_same)
    refine ⟨e2, ?_⟩
    split at q2
    · rename_i hko
      obtain ⟨c, hc, _⟩ := keyT hko
      have r1' := Rep.move (Mv.same s2) _ _ r1
      have hb : ∃ b, x = .ref b := by
        cases kd with
        | tup xs' =>
          simp only [Rep] at r1'
          obtain ⟨b, vs, rfl, _⟩ := r1'
          exact ⟨b, rfl⟩
        | _ => simp [keyOk] at hko
      obtain ⟨b, rfl⟩ := hb
      refine ⟨X.K, _, kd, c, b, rfl, rfl, hko, hc, r1', fun zq => ?_⟩
      have s3 : Same H (upd H2 p (dicT p ([(c, b, y)], zq))) := fun b o e => by
        rw [upd_ne fun z => by
          subst z
          rw [hp] at e
          cases e]
        exact s2 _ _ (s1 _ _ (new_same hp _ _ e))
      have mv := mv_disp (A := A) (O := O) (o := dicT p ([(c, b, y)], zq)) e2 fun z => z
      refine q2 p _ hp s3 (.inr ⟨rfl, ([(c, b, y)], zq), upd_same, ?_⟩)
      simp only [RepT]
      exact ⟨c, b, y, [], rfl, ⟨hc, hko⟩, Rep.move mv _ _ r1', Rep.move mv _ _ r2, rfl⟩
    · exact q2.elim
end
/-! ### list(range(..)) -/
section
variable {X : Cx} [CW X] {W : WX} {ow : Ow} {a b e : Expr} {es : List Expr} {m ma mb : EM} {am : AM} {pos p p2 : Pos}
theorem rgV_rep {K : Frag} {A : AS} {H : Hp} (lo hi : Int) : RepL K A H (rngL lo hi) (rgV lo hi) := by
  have key : ∀ l : List Nat, RepL K A H (l.map fun i => D.int (lo + (i : Nat))) (l.map fun i => V.int (lo + (i : Nat))) := by
    intro l
    induction l with
    | nil => simp [RepL]
    | cons x l ih =>
      simp only [List.map_cons, RepL]
      exact ⟨_, _, rfl, by simp [Rep], ih⟩
  unfold rngL rgV
  exact key _
theorem new_own {K : Frag} {A : AS} {H : Hp} {p : Addr} {ds : List D} {vs : List V} (hp : H p = none) (r : RepL K A H ds vs) : OwnAt K (fun b => A b ∨ b = p) (upd H p (.lst vs)) p (.lst ds) :=
  ⟨vs, upd_same, RepL.move ⟨fun b hb => by
      rcases hb with hb | rfl
      · exact .inl hb
      · exact .inr hp, fun b o e _ => new_same hp b o e⟩ _ _ r⟩
theorem f_lrng1 (hc : X.calm = true) (hgl : Gl X "list") (hml : X.mg "list" = none) (hg : Gl X "range") (hm : X.mg "range" = none) (ha : PE X a (tE X.K W ow ma)) (hs : starEach [a] X.env = [(false, eval a X.env)] := by rfl)
    (hs2 : starEach [.Call (.Name "range" p) [a] [] p2] X.env = [(false, eval (.Call (.Name "range" p) [a] [] p2) X.env)] := by rfl) {pn : Pos} : PE X (.Call (.Name "list" pn) [.Call (.Name "range" p) [a] [] p2] [] pos) (tF X.K W ow (lrngE (irng1 ma))) :=
  PE.of (pe_listRg hc hgl hml (prg_1 hg hm ha hs) hs2) fun σ H Q ⟨A, H0, O, en, R, q⟩ => ⟨A, H0, O, en, R, (Out.bind (Out.bind q)).good fun d q1 v H1 s1 r1 => by
    cases d with
    | int n =>
      have r1' : v = .int n := r1
      subst r1'
      dsimp only at q1
      split at q1
      · rename_i hz
        have q2 : Out (if (rngL 0 n).length ≤ 1000000 then Res.ok (D.lst (rngL 0 n)) else Res.stuck) _ _ := q1
        split at q2
        · rename_i hl
          have hl2 : (n - 0).toNat ≤ 1000000 := by
            unfold rngL at hl
            simpa using hl
          obtain ⟨z1, z2⟩ := nb62 hz
          refine ⟨n, rfl, ⟨by decide, by decide, z1, z2, by omega⟩, fun q3 hq => q2 q3 _ (s1.free hq) (s1.trans (new_same hq)) (new_own hq (rgV_rep 0 n))⟩
        · exact q2.elim
      · exact q1.elim
    | _ => exact q1.elim⟩
/-! ### starred items -/
theorem rep_paired {K : Frag} {A : AS} {H : Hp} : ∀ {vs : List V} {ds : List D}, RepL K A H ds vs → Paired (fun v d => Rep K A H d v) vs ds
  | vs, [], r => by
    simp only [RepL] at r
    subst r
    exact .nil
  | vs, d :: ds, r => by
    simp only [RepL] at r
    obtain ⟨v, q, rfl, h1, h2⟩ := r
    exact .cons h1 (rep_paired h2)
theorem xa_star (ha : PE X e (tE X.K W ow m)) (hr : PA X es (aE X.K W ow am)) (hs : starEach (.Starred e p :: es) X.env = (true, eval e X.env) :: starEach es X.env := by rfl) : PA X (.Starred e p :: es) (aE X.K W ow (argS m am)) :=
  PA.of (StX.pa_star ha hr hs) fun σ H Q ⟨A, H0, O, en, R, q⟩ => ⟨A, H0, O, en, R, (Out.bind q).good fun d q1 v H1 s1 r1 => by
    have hrep : ∀ {bs : Bool × List D}, seqOf d = some bs → ∃ pa vs, v = .ref pa ∧ (SqT X.K H1 pa vs ∨ SqL X.K H1 pa vs) ∧ RepL X.K (AO A O) H1 bs.2 vs := by
      intro bs hb
      cases d with
      | lst xs =>
        simp only [seqOf, Option.some.injEq] at hb
        subst hb
        obtain ⟨pa, vs, e, n, h, r⟩ := (by simpa only [Rep] using r1 : ∃ a vs, v = .ref a ∧ ¬ AO A O a ∧ Rd H1 a (.lst vs) ∧ RepL X.K (AO A O) H1 xs vs)
        exact ⟨pa, vs, e, .inr (.inl h), r⟩
      | tup xs =>
        simp only [seqOf, Option.some.injEq] at hb
        subst hb
        obtain ⟨pa, vs, e, h, r⟩ := (by simpa only [Rep] using r1 : ∃ a vs, v = .ref a ∧ SqT X.K H1 a vs ∧ RepL X.K (AO A O) H1 xs vs)
        exact ⟨pa, vs, e, .inl h, r⟩
      | _ => simp [seqOf] at hb
    cases hsq : seqOf d with
    | none =>
      rw [hsq] at q1
      exact q1.elim
    | some bs =>
      obtain ⟨pa, vs, rfl, hq, r⟩ := hrep hsq
      rw [hsq] at q1
      obtain ⟨bb, xs⟩ := bs
      exact ⟨pa, vs, rfl, hq, A, H0, O, en, R.to s1, ((Out.bind q1).to s1).good fun ds q2 ws H2 s2 r2 => q2 _ H2 (s1.trans s2) (rep_paired ((RepL.move (Mv.same s2) _ _ r).append (paired_rep r2)))⟩⟩
end
end Py
namespace Py
theorem Ctx.dh {X : L2.Cx} {W : L2.WX} {k : Nat} (T : Ctx X W k) : X.A.units + 16 < PySem.cLine := by have := T.hr.un; omega
end Py
/-! max, min of a list; extend; ranges with a step. -/
/-! len(x) by an own __len__. -/
/-! Lists of new lists, filled at drawn places. -/
namespace Py
open PySem L2
/-- lists of numbers, all of them new: where they stand -/
structure Nst (H : Hp) (a : Addr) (as : List Addr) (zss : List (List Int)) : Prop where
  out : H a = some (.lst (as.map V.ref))
  nd : as.Nodup
  no : a ∉ as
  len : as.length = zss.length
  inn : ∀ (k : Nat) (b : Addr) (zs : List Int), as[k]? = some b → zss[k]? = some zs → H b = some (.lst (zs.map V.int))
theorem Nst.same {H H' : Hp} {a : Addr} {as : List Addr} {zss : List (List Int)} (h : Nst H a as zss) (s : Same H H') : Nst H' a as zss :=
  ⟨s _ _ h.out, h.nd, h.no, h.len, fun k b zs h1 h2 => s _ _ (h.inn k b zs h1 h2)⟩
variable [WI]
theorem repL_ints {K : Frag} {A : AS} {H : Hp} : ∀ zs : List Int, RepL K A H (zs.map D.int) (zs.map V.int)
  | [] => rfl
  | z :: zs => ⟨.int z, zs.map V.int, rfl, rfl, repL_ints zs⟩
theorem Nst.rep {K : Frag} {A : AS} {H : Hp} {a : Addr} {as : List Addr} {zss : List (List Int)} (h : Nst H a as zss) (na : ¬ A a) (nb : ∀ b ∈ as, ¬ A b) : Rep K A H (.lst (zss.map fun (zs : List Int) => D.lst (zs.map D.int))) (.ref a) := by
  have key : ∀ (as : List Addr) (zss : List (List Int)), as.length = zss.length → (∀ b ∈ as, ¬ A b) → (∀ (k : Nat) (b : Addr) (zs : List Int), as[k]? = some b → zss[k]? = some zs → H b = some (.lst (zs.map V.int))) → RepL K A H (zss.map fun (zs : List Int) => D.lst (zs.map D.int)) (as.map V.ref) := by
    intro as
    induction as with
    | nil =>
      intro zss hl _ _
      cases zss with
      | nil => rfl
      | cons z zs => simp at hl
    | cons b as ih =>
      intro zss hl hb hi
      cases zss with
      | nil => simp at hl
      | cons zs zss =>
        refine ⟨.ref b, as.map V.ref, rfl, ⟨b, _, rfl, hb b List.mem_cons_self, .inl (hi 0 b zs rfl rfl), repL_ints zs⟩, ih zss (by simpa using hl) (fun c hc => hb c (List.mem_cons_of_mem _ hc)) fun k c ws h1 h2 => hi (k + 1) c ws h1 h2⟩
  exact ⟨a, _, rfl, na, .inl h.out, key as zss h.len nb h.inn⟩
end Py
/-! .. filled by a loop. -/
namespace PySem
open Builtin
end PySem
/-! list(zip(*x)): zip over any number of lists and tuples of one length. -/
namespace Py
open PySem PySem.Spec PyProof.Rows L2
abbrev Col := Bool × Nat × Array Value
def refs (n0 n : Nat) : List Value := (List.range n).map fun m => Value.ref (n0 + m)
/-- a zip over columns at n0: f0, f1: what it knows of the tuple given out -/
structure ZAt (h : Heap) (n0 : Nat) (cs : List Col) (i : Nat → Nat) (f0 f1 : Value) : Prop where
  it : ∀ (m : Nat) (c : Col), cs[m]? = some c → IAt c.1 h (n0 + m) c.2.1 (i m)
  sq : ∀ (m : Nat) (c : Col), cs[m]? = some c → SAt c.1 h c.2.1 c.2.2 ∧ c.2.1 < n0
  ti : h.get? (n0 + cs.length) = some { cls := .type "tuple", data := .seq (refs n0 cs.length).toArray }
  ob : h.get? (n0 + cs.length + 2) = some { cls := .type "zip", data := .fields #[f0, f1, .bool false, .ref (n0 + cs.length), .ref (n0 + cs.length + 1)] }
def TOAt (h : Heap) (n0 : Nat) (cs : List Col) : Prop := ∃ vs : Array Value, vs.size = cs.length ∧ h.get? (n0 + cs.length + 1) = some { cls := .type "tuple", data := .seq vs }
end Py
/-! A turn of a zip over any number of columns. -/
namespace Py
open PySem PySem.Spec PyProof.Rows L2
/-- outside the zip's own objects -/
def Off (n0 : Nat) (cs : List Col) (a : Nat) : Prop := a < n0 ∨ n0 + cs.length + 3 ≤ a
def Kp (n0 : Nat) (cs : List Col) (h h' : Heap) : Prop := ∀ (a : Nat) o, Off n0 cs a → h.get? a = some o → h'.get? a = some o
theorem Kp.refl {n0 : Nat} {cs : List Col} {h : Heap} : Kp n0 cs h h := fun _ _ _ e => e
end Py
/-! A zip over any number of columns: further turns, its end, next. -/
namespace Py
open PySem PySem.Spec PyProof.Rows L2
/-- a zip behind i turns; T: the tuple given out last -/
inductive ZSt (h : Heap) (n0 : Nat) (cs : List Col) (i : Nat) : Prop
  | fresh (z : ZAt h n0 cs (fun _ => i) .none (.bool false)) (to : TOAt h n0 cs)
  | held (T : Nat) (f : Bool) (z : ZAt h n0 cs (fun _ => i) (rawInt T) (.bool f)) (hT : ∃ o, h.get? T = some o) (off : Off n0 cs T)
section
variable {prog : Program} {w : World} {A : Around} {E : Value → Shared → Prop} {s : Shared}
theorem ZSt.ty {n0 i : Nat} {cs : List Col} (z : ZSt s.heap n0 cs i) : s.TypeIs (.ref (n0 + cs.length + 2)) "zip" := by
  cases z with
  | fresh z _ => exact ⟨_, z.ob, rfl⟩
  | held T f z _ _ => exact ⟨_, z.ob, rfl⟩
end
end Py
/-! list(z), z a zip just made. -/
/-! list(zip(*x)) in the mirror; range with a step. -/
/-! A slice of a list is a new list. -/
/-! == by an own __eq__. -/
/-! sorted(xs) of numbers, of tuples of numbers and tuples. -/
/-! Draws. -/
namespace Py
open PySem PySem.Spec PyProof.Rows L2
variable [WI]
theorem rep_ints_inv {K : Frag} {A : AS} {H : Hp} : ∀ {xs : List D} {is : List Int} {vs : List V}, allI xs = some is → RepL K A H xs vs → vs = is.map V.int
  | [], is, vs, e, r => by
    simp only [allI, Option.some.injEq] at e
    subst e
    simpa [RepL] using r
  | d :: xs, is, vs, e, r => by
    cases d <;> simp only [allI, reduceCtorEq] at e
    rename_i i
    cases h : allI xs with
    | none => rw [h] at e; cases e
    | some js =>
      rw [h] at e
      simp only [Option.map_some, Option.some.injEq] at e
      subst e
      simp only [RepL] at r
      obtain ⟨v, w, rfl, h1, h2⟩ := r
      rw [rep_ints_inv h h2]
      have h1' : v = .int i := h1
      rw [h1']
      rfl
theorem repW_cells {K : Frag} {A : AS} {H : Hp} {q : Nat × List Int} {v : V} (h : RepW K A H (.drw (.inr q)) v) : RepW K A H (.lst (q.2.map .int)) v := by
  obtain ⟨e, n, r⟩ := (by simpa only [RepW, Rep] using h : v = .ref q.1 ∧ ¬ A q.1 ∧ Rd H q.1 (.lst (q.2.map V.int)))
  exact ⟨q.1, _, e, r, repL_ints q.2⟩
section
variable {fr : Rm} {X : Cx} [CW X] {W : WX} {A : AS} {H0 : Base} {ow oN oB : Ow} {a b c e : Expr} {es : List Expr} {m ma mb mc : EM} {am : AM} {pos : Pos} {body : List Stmt} {t : TS}
theorem y_idxC (hu : X.A.units + 16 < cLine) : IxR X (r2 X.K oidxC) := by
  intro value slice pins s σ H x y v u Q I rx ry ⟨A, d1, d2, d, h1, h2, ha, e, k⟩ hs
  cases d1 with
  | drw q =>
    cases q with
    | inl _ => cases e
    | inr q => exact y_idx hu value slice pins s σ H x y v u Q I rx ry ⟨A, _, d2, d, repW_cells h1, h2, ha, e, k⟩ hs
  | _ => cases e
theorem Ctx.ixC {X : Cx} [CW X] {W : WX} {k : Nat} (T : Ctx X W k) : IxR X (r2 X.K oidxC) := y_idxC (by have := T.hr.un; omega)
theorem n_idxC : NoEx2 oidxC := fun x y c fs => by
  cases x with
  | drw q =>
    cases q with
    | inl _ => rfl
    | inr q => exact n_idx _ _ () ()
  | _ => rfl
theorem v_lenC : CallR X (.builtin "len") (c1 X.K blenC) := fun pins s σ H xs us Q I rx ⟨x, e0, A, d1, d, h1, ha, e, k⟩ => by
  cases d1 with
  | drw q =>
    cases q with
    | inl _ => cases e
    | inr q => exact v_len pins s σ H xs us Q I rx ⟨x, e0, A, _, d, repW_cells h1, ha, e, k⟩
  | _ => cases e
theorem n_lenC : NoEx1 blenC := fun x c fs => by
  cases x with
  | drw q =>
    cases q with
    | inl _ => rfl
    | inr q => exact n_len (.lst (q.2.map .int)) () ()
  | _ => rfl
theorem x_idxC (hi : IxR X (r2 X.K oidxC)) (ha : PE X a (tW X.K W ow ma)) (hb : PE X b (tW X.K W ow mb)) (hs : PlainIx b := by exact fun _ _ => rfl) : PE X (.Subscript a b pos) (tE X.K W ow (bin oidxC ma mb)) :=
  PE.of (pe_ix hi ha hb hs) fun _ _ _ h => two_of n_idxC h
theorem ER.back {K : Frag} {O : OW} {σ : L2.St} {H : Hp} {e : Env} (R : ER K A H0 ow O σ H e) {a : Addr} (hpx : H0.px = some a) {d l : D} {v : V} (r : Rep K (AO A O) H d v) (hl : e[0]? = some (some l)) (h0 : ow 0 = true) :
    ∃ G, Inn A (fun b => H0.hp b = none) H a G ∧ Rep K (gA A a G) H d v ∧ OwnG K (gA A a G) G H a l := by
  have z := R.pin a hpx
  obtain ⟨b, p1, p2, p3⟩ := R.owns 0 l hl h0
  have e : b = a := Option.some.inj (p1.symm.trans z)
  subst e
  have mv : Mv (AO A O) H (gA A b (gh O 0)) H := Mv.less fun c hc => by
    rcases hc with (hc | hc) | ⟨t, hc⟩
    · exact .inl hc
    · rw [hc]
      exact .inr ⟨_, p1⟩
    · exact .inr ⟨_, hc⟩
  refine ⟨gh O 0, ⟨fun t c hc => ⟨(R.fresh _ c hc).1, (R.fresh _ c hc).2.1, (R.fresh _ c hc).2.2, fun w => ?_⟩, fun t t' c hc hc' => ?_⟩, Rep.move mv _ _ r, p3.move mv rfl fun t c hc => ⟨hc, rfl⟩⟩
  · subst w
    have := R.inj _ _ c p1 hc
    cases t <;> simp at this
  · have := R.inj _ _ c hc hc'
    cases t <;> cases t' <;> simp at this <;> rfl
theorem s_retB (h : PE X a (tE X.K W ow m)) (h0 : ow 0 = true) : PS X (.Return (some a) pos) (tS3 .lent X.K W ow oN oB (retB m)) :=
  PS.of (ps_ret h) fun D σ H ⟨A, H0, O, en, R, q⟩ => ⟨A, H0, O, en, R, ((Out.bind q).se R).good fun d q1 v H1 s1 r1 => by
    obtain ⟨l, hl, q2⟩ := var_ok q1
    have q3 : EndOk3 .lent X.K A H0 oN oB O H D (.ret (.tup [d, l])) := q2
    exact q3 v H1 (R.same.trans s1) ⟨d, l, rfl, fun x hx => (R.to s1).back hx r1 hl h0⟩⟩
/-! ### a pool is opened, closed -/
theorem Inv.opened {pins : List (Addr × Obj)} {σ : L2.St} {H : Hp} {s : Shared} {k : Bool} {x a0 : Addr} (I : Inv X pins σ H s) (h : H x = some (poolO k x a0)) :
    ∃ vs, PoolV k a0 vs ∧ Inv X pins σ (upd H x (.lst vs)) s := by
  obtain ⟨⟨vs, its, n, hp, hv, hg⟩, ho, _⟩ := I.hok x _ h
  refine ⟨vs, hp, ?_⟩
  have hl : vs.length ≤ sizeLine := by
    cases k
    · obtain ⟨p, c, m, rfl, _⟩ := hp
      exact (by decide : 4 ≤ sizeLine)
    · obtain ⟨p, c, j, m, rfl, _⟩ := hp
      exact (by decide : 5 ≤ sizeLine)
  exact L2.Inv.write (e := x) (o := .lst vs) (t' := s.toks) I (by rw [h]; exact True.intro) (.inl rfl) (fun b u _ q => q) ⟨_, hg⟩ ⟨hl, its, n, hv, hg⟩
theorem Inv.closed {pins : List (Addr × Obj)} {σ : L2.St} {H : Hp} {s : Shared} {k : Bool} {x a0 : Addr} {vs : List V} (I : Inv X pins σ H s) (h : H x = some (.lst vs)) (hp : PoolV k a0 vs) :
    Inv X pins σ (upd H x (poolO k x a0)) s := by
  obtain ⟨hl, its, n, hv, hg⟩ := I.hok x _ h
  refine L2.Inv.write (e := x) (o := poolO k x a0) (t' := s.toks) I (by rw [h]; exact True.intro) (.inl rfl) (fun b u _ q => q) ⟨_, hg⟩ ⟨⟨vs, its, n, hp, hv, hg⟩, ⟨_, hg⟩, ?_⟩
  rintro h1 h2 ⟨vs', its', n', hp', hv', hg'⟩ kk
  exact ⟨vs', its', n', hp', hv', kk _ hg'⟩
def tOpen (t : TS) : TS := fun D σ H => ∃ k x a0, H x = some (poolO k x a0) ∧ ∀ vs, PoolV k a0 vs → t { nx := fun _ _ => False, rt := fun v H' => ∃ vs', PoolV k a0 vs' ∧ H' x = some (.lst vs') ∧ D.rt v (upd H' x (poolO k x a0)) } σ (upd H x (.lst vs))
theorem pss_open (h : PSs X body t) : PSs X body (tOpen t) := ⟨fun pins s σ H D I ⟨k, x, a0, hx, q⟩ => by
  obtain ⟨vs, hp, J⟩ := Inv.opened I hx
  refine thn (h.run pins s σ _ _ J (q vs hp)) fun f s' z => ?_
  cases f with
  | next => obtain ⟨_, _, _, z⟩ := z; exact z.elim
  | brk => obtain ⟨_, _, _, z⟩ := z; exact z.elim
  | cont => obtain ⟨_, _, _, z⟩ := z; exact z.elim
  | ret u =>
    obtain ⟨v, σ', H', I', r', vs', p', e', d'⟩ := z
    exact ⟨v, σ', _, Inv.closed I' e' p', r', d'⟩⟩
theorem pool_v {K : Frag} {k : Bool} {A : AS} {H : Hp} {a0 : Nat} {xs : List Int} {ds : List D} {vs : List V} (h : DV k a0 xs ds) (r : RepL K A H ds vs) : PoolV k a0 vs := by
  cases k
  · obtain ⟨p, c, m, rfl, h1, h2, h3⟩ := h
    simp only [RepL, Rep] at r
    obtain ⟨v0, r0, rfl, ⟨rfl, _⟩, v1, r1, rfl, rfl, v2, r2, rfl, rfl, v3, r3, rfl, rfl, rfl⟩ := r
    exact ⟨p, c, m, rfl, h1, h2, h3⟩
  · obtain ⟨p, c, j, m, rfl, h1, h2, h3⟩ := h
    simp only [RepL, Rep] at r
    obtain ⟨v0, r0, rfl, ⟨rfl, _⟩, v1, r1, rfl, rfl, v2, r2, rfl, rfl, v3, r3, rfl, rfl, v4, r4, rfl, rfl, rfl⟩ := r
    exact ⟨p, c, j, m, rfl, h1, h2, h3⟩
theorem pool_d {K : Frag} {k : Bool} {A : AS} {H : Hp} {a0 : Nat} {xs : List Int} {vs : List V} (h : PoolV k a0 vs) (na : ¬ A a0) (r : Rd H a0 (.lst (xs.map V.int))) : ∃ ds, DV k a0 xs ds ∧ RepL K A H ds vs := by
  cases k
  · obtain ⟨p, c, m, rfl, h1, h2, h3⟩ := h
    refine ⟨_, ⟨p, c, m, rfl, h1, h2, h3⟩, ?_⟩
    simp only [RepL, Rep]
    exact ⟨_, _, rfl, ⟨rfl, na, r⟩, _, _, rfl, rfl, _, _, rfl, rfl, _, _, rfl, rfl, rfl⟩
  · obtain ⟨p, c, j, m, rfl, h1, h2, h3⟩ := h
    refine ⟨_, ⟨p, c, j, m, rfl, h1, h2, h3⟩, ?_⟩
    simp only [RepL, Rep]
    exact ⟨_, _, rfl, ⟨rfl, na, r⟩, _, _, rfl, rfl, _, _, rfl, rfl, _, _, rfl, rfl, _, _, rfl, rfl, rfl⟩
end
theorem ar_pick {k : Bool} : Ar 2 (pickF k) := ⟨fun ds h => by
  match ds, h with
  | [], _ => rfl
  | [_], _ => simp [pickF]
  | _ :: _ :: _ :: _, _ => simp [pickF]
  | [a, b], h => exact absurd rfl h⟩
theorem rd_ne {H : Hp} {a0 x : Addr} {k : Bool} {vs : List V} (h : H x = some (poolO k x a0)) (r : Rd H a0 (.lst vs)) : a0 ≠ x := fun e => by
  subst e
  rcases r with r | ⟨o, r⟩ <;> (rw [h] at r; cases r)
theorem Rd.upd {H : Hp} {a x : Addr} {u o : HO} (r : Rd H a u) (h : a ≠ x) : Rd (upd H x o) a u := by
  rcases r with r | ⟨q, r⟩
  · exact .inl (by rw [upd_ne h]; exact r)
  · exact .inr ⟨q, by rw [upd_ne h]; exact r⟩
section
variable {P : Program} {w : World} [HW w] {K : Frag} {mg : Str → Option Value} {base : Heap} {k : Nat} {oN oB : Ow} {m : SM} {f : Addr} {N ps : List Str} {n : Nat}
theorem draw_start {kk : Bool} {E : XK} {vs : List V} {H : Hp} {Q : VK} (hN : 2 ≤ N.length) (hD : Draws kk N.length m) (h : spM K 2 (pickF kk) vs H Q E) :
    tOpen (tS3 .lent K (WD E) ⟨fun i => i == 0, none⟩ oN oB m) { nx := fun _ H' => Q .non H', rt := Q } (L2.start N vs) H := by
  obtain ⟨A, ds, r, hl, ha, q⟩ := h
  match ds, hl with
  | [d1, d2], _ =>
  cases d1 with
  | drw z =>
    cases z with
    | inl q0 =>
      cases d2 with
      | int many =>
        simp only [pickF] at q
        split at q
        · rename_i hc
          obtain ⟨rfl, h1, h2⟩ := hc
          simp only [RepL, Rep] at r
          obtain ⟨v0, r0, rfl, ⟨x, a0, xs, rfl, nx, hx, na, rd⟩, v1, r1, rfl, rfl, rfl⟩ := r
          refine ⟨q0, x, a0, hx, fun vs hv => ?_⟩
          have hne := rd_ne hx rd
          have nO : ∀ i y, (if i = 0 then some x else none) = some y → i = 0 ∧ y = x := fun i y h => by
            by_cases hi : i = 0
            · rw [if_pos hi] at h
              cases h
              exact ⟨hi, rfl⟩
            · rw [if_neg hi] at h
              cases h
          have nAO : ¬ AO A (fun i => if i = 0 then some x else none) a0 := fun z => z.elim na fun ⟨i, z⟩ => hne (nO i a0 z).2
          obtain ⟨ds, hds, rds⟩ := pool_d (K := K) (A := AO A fun i => if i = 0 then some x else none) (H := upd H x (.lst vs)) hv nAO (Rd.upd rd hne)
          obtain ⟨rr, ds', hb, hr1, hr2, hds'⟩ := hD a0 xs ds many hds h1 h2
          refine ⟨A, ⟨fun b => if b = x then none else H b, some x⟩, fun i => if i = 0 then some x else none, [some (.lst ds), some (.int many)] ++ List.replicate (N.length - 2) none, ?_, ?_⟩
          · refine ⟨?_, fun b hb => ?_, fun b o e => ?_, fun i d g1 g2 => ?_, fun i d g1 g2 => ?_, fun i y g => ?_, fun i j y g g' => (nO i y g).1.trans (nO j y g').1.symm, fun y g => by cases g; rfl, XFact.none rfl⟩
            · unfold L2.start
              simp only [List.length_append, List.length_map, List.length_replicate, List.length_cons, List.length_nil]
            · by_cases e : b = x
              · rw [e, upd_same]
                exact fun z => nomatch z
              · rw [upd_ne e]
                exact ha b hb
            · have e : (if b = x then none else H b) = some o := e
              by_cases e2 : b = x
              · rw [if_pos e2] at e
                cases e
              · rw [if_neg e2] at e
                rw [upd_ne e2]
                exact e
            · match i with
              | 0 => exact absurd g2 (by simp)
              | 1 =>
                simp at g1
                subst g1
                exact ⟨_, start_get (i := 1) rfl, rfl⟩
              | i + 2 =>
                rw [List.getElem?_append_right (by simp), List.getElem?_replicate] at g1
                split at g1 <;> cases g1
            · match i with
              | 0 =>
                simp at g1
                subst g1
                exact ⟨x, rfl, start_get (i := 0) rfl, vs, upd_same, rds⟩
              | i + 1 => exact absurd g2 (by simp)
            · obtain ⟨rfl, rfl⟩ := nO i y g
              exact ⟨if_pos rfl, by rw [upd_same]; exact fun z => (nomatch z), nx⟩
          · rw [hb]
            intro v H' s' ⟨rv, l, e, g2⟩
            cases e
            obtain ⟨G, _, g1, g3⟩ := g2 x rfl
            obtain ⟨vs', e1, rl⟩ := (show ∃ vs, H' x = some (.lst vs) ∧ RepL K (gA A x G) H' ds' vs from g3)
            refine ⟨vs', pool_v hds' rl, e1, ?_⟩
            have hv : v = .int rr := g1
            subst hv
            refine q rr.toNat (by omega) (.int rr) _ (fun b o e => ?_) (by
              have : (rr.toNat : Int) = rr := by omega
              show V.int rr = V.int (rr.toNat : Int)
              rw [this])
            by_cases e2 : b = x
            · subst e2
              rw [hx] at e
              cases e
              exact upd_same
            · rw [upd_ne e2]
              exact s' b o (by show (if b = x then none else H b) = some o; rw [if_neg e2]; exact e)
        · exact q.elim
      | _ => simp only [pickF] at q; exact q.elim
    | inr _ => cases d2 <;> (simp only [pickF] at q; exact q.elim)
  | _ => cases d2 <;> (simp only [pickF] at q; exact q.elim)
theorem def_okP {d : He.DefD} {kk : Bool} (F : ∃ fd, FunD K d.name d.qual d.params d.body d.scope [] [] f fd) (g : mg d.name = some (.ref f)) (S : FnScope N ps d.scope) (hpl : ps.length = 2) (hnl : N.length = n) (hD : Draws kk n m)
    (hbind : ∀ (kV doc pm : Value) (an : Option Addr) (cdv ct : Value) (us : List Value), us.length = ps.length → bindArgs (PySem.W.fnOf d.name d.qual d.params d.body d.scope .none kV doc pm an cdv ct) ⟨us, []⟩ = pure (ps.zip us))
    (hb : ∀ (cdv : Value) (A : Around) (outer : List PySem.Env) (s : Shared) (H : Hp) (E : XK), Ctx (cxOf (L2N.CX P w) P w K mg base N d.qual d.scope f cdv A outer s H E) (WD E) k →
      PSs (cxOf (L2N.CX P w) P w K mg base N d.qual d.scope f cdv A outer s H E) d.body (tS3 .lent K (WD E) ⟨fun i => i == 0, none⟩ oN oB m)) : CallOk P w K mg base (k + 1) d.name d ps 2 (pickF kk) := by
  obtain ⟨fd, F⟩ := F
  subst hnl
  refine ⟨f, fd, g, F.kp, FunD.bindsN F hbind, ?_, ar_pick, F⟩
  refine F.ok S (fun vs H Q E ⟨A, ds, r, h, _⟩ => by rw [hpl]; exact r.length.symm.trans h) (fun cdv A outer s H vs Q E hr h => ?_)
  exact ⟨_, pss_open (hb cdv A outer s H E ⟨rfl, L2N.takes_of rfl rfl rfl rfl, passes_of rfl, hr, S.nd⟩), draw_start (by rw [← hpl]; exact pre_le S.pre) hD h⟩
end
/-! ### a new pool -/
def tPool (t : TE) : TE := fun σ H Q => t σ H fun v H' => ∃ k x a0 vs, v = .ref x ∧ H' x = some (.lst vs) ∧ PoolV k a0 vs ∧ Q v (upd H' x (poolO k x a0))
section
variable {X : Cx} [CW X] {W : WX} {ow : Ow} {e : Expr} {m : EM}
theorem pe_pool {t : TE} (h : PE X e t) : PE X e (tPool t) := ⟨fun pins s σ H Q I q => thn (h.run pins s σ H _ I q) fun u s' ⟨v, H', I', r', k, x, a0, vs, e1, e2, e3, e4⟩ => ⟨v, _, Inv.closed I' e2 e3, r', e4⟩⟩
theorem pool_end {K : Frag} {A : AS} {O : OW} {H H' : Hp} {Q : VK} {a : Addr} {k : Bool} {xs : List D} {vs : List V} (h0 : ∀ b, AO A O b → H b ≠ none) (n : H a = none) (s : Same H H') (e : H' a = some (.lst vs)) (hx : (allI xs).isSome)
    (hr : ∃ a0, (¬ AO A O a0 ∧ a0 ≠ a) ∧ (∃ ws, Rd H' a0 (.lst ws) ∧ RepL K (fun b => AO A O b ∨ b = a) H' xs ws) ∧ PoolV k a0 vs) (q : ∀ v H2, Same H H2 → Rep K (AO A O) H2 (.drw (.inl k)) v → Q v H2) :
    ∃ k x a0 vs, V.ref a = .ref x ∧ H' x = some (.lst vs) ∧ PoolV k a0 vs ∧ Q (.ref a) (upd H' x (poolO k x a0)) := by
  obtain ⟨a0, ⟨h1, h2⟩, ⟨ws, h3, h4⟩, h5⟩ := hr
  refine ⟨k, a, a0, vs, rfl, e, h5, q _ _ (fun b o g => ?_) ?_⟩
  · rw [upd_ne (fun z => by rw [z, n] at g; cases g)]
    exact s b o g
  · obtain ⟨is, his⟩ := Option.isSome_iff_exists.mp hx
    have hw := rep_ints_inv his h4
    subst hw
    simp only [Rep]
    exact ⟨a, a0, is, rfl, fun z => h0 a z n, upd_same, h1, Rd.upd h3 h2⟩
theorem x_pool (h : PE X e (tF X.K W ow m)) : PE X e (tE X.K W ow (mkp m)) :=
  PE.of (pe_pool h) fun σ H Q ⟨A, H0, O, en, R, q⟩ => ⟨A, H0, O, en, R, (Out.bind q).good fun d q1 a H' n s o => by
    rcases mkpF_inv d with hd | ⟨xs, p, c, u, rfl, hc, hd⟩ | ⟨xs, p, c, j, u, rfl, hc, hd⟩
    · rw [hd] at q1
      exact q1.elim
    · rw [hd] at q1
      obtain ⟨vs, e1, r⟩ := o
      simp only [RepL, Rep] at r
      obtain ⟨v0, r0, rfl, ⟨a0, ws, rfl, na, rd, rl⟩, v1, r1, rfl, rfl, v2, r2, rfl, rfl, v3, r3, rfl, rfl, rfl⟩ := r
      exact pool_end (k := false) R.there n s e1 hc.1 ⟨a0, ⟨fun z => na (.inl z), fun z => na (.inr z)⟩, ⟨ws, rd, rl⟩, ⟨p, c, u, rfl, hc.2⟩⟩ q1
    · rw [hd] at q1
      obtain ⟨vs, e1, r⟩ := o
      simp only [RepL, Rep] at r
      obtain ⟨v0, r0, rfl, ⟨a0, ws, rfl, na, rd, rl⟩, v1, r1, rfl, rfl, v2, r2, rfl, rfl, v3, r3, rfl, rfl, v4, r4, rfl, rfl, rfl⟩ := r
      exact pool_end (k := true) R.there n s e1 hc.1 ⟨a0, ⟨fun z => na (.inl z), fun z => na (.inr z)⟩, ⟨ws, rd, rl⟩, ⟨p, c, j, u, rfl, hc.2⟩⟩ q1⟩
end
theorem always_out {α : Type} {P : α → Prop} {r : Res α} {good : α → Prop} {bad : String → List (String × Py.D) → Prop} (h : Always P r) (k : ∀ a, P a → good a) : Out r good bad := by
  induction r with
  | ok a => exact k a h
  | exc c fs => exact h.elim
  | stuck => exact h.elim
  | pick n f ih => exact fun i hi => ih i (h i hi)
/-- whatever is drawn, the law holds -/
theorem sp_lawA {K : Frag} {fm : List Py.D → Res Py.D} (hL : noL K = true) {H : Hp} {a : Addr} {ns : List Int} (hm : Always (fun d => d = .bl true) (fm [.lst (ns.map .int)])) (hS : SqL K H a (ns.map V.int)) :
    spM K 1 fm [.ref a] H (fun v _ => v = .bl true) fun _ _ _ => False := by
  refine ⟨fun _ => False, [.lst (ns.map .int)], ?_, rfl, fun _ h => h.elim, always_out hm fun d e => ?_⟩
  · simp only [RepL]
    refine ⟨_, _, rfl, ?_, rfl⟩
    simp only [Rep]
    exact ⟨a, _, rfl, id, sqL_rd hL hS, ints_rep ns⟩
  · subst e
    exact fun v H' _ r => r
end Py
/-! Defs that give back a pair of new lists. -/
namespace Py
variable [WI]
open PySem L2
def spT (K : Frag) (p : Nat) (m : List D → Res D) : Sp := fun vs H Q E => ∃ A ds, RepL K A H ds vs ∧ ds.length = p ∧ (∀ a, A a → H a ≠ none) ∧
  Out (m ds) (fun d => (d = .non → ∀ H', Same H H' → Q .non H') ∧ ∀ a b c x y H', d = .tup [x, y] → SqT K H' a [.ref b, .ref c] → b ≠ c → H b = none → H c = none → Same H H' → OwnAt K (fun z => (A z ∨ z = b) ∨ z = c) H' b x → OwnAt K (fun z => (A z ∨ z = b) ∨ z = c) H' c y → Q (.ref a) H') (fun c fs => ∀ da H' fvs, Same H H' → H' da = some (.xd fvs) → RepF K A H' fs fvs → E (.ref (ca K c)) (some da) H')
theorem spT_le {K : Frag} {p : Nat} {m : List D → Res D} {vs : List V} {H : Hp} {Q : VK} {E : XK} (h : spM K p m vs H Q E) : spT K p m vs H Q E := by
  obtain ⟨A, ds, r, hl, ha, q⟩ := h
  refine ⟨A, ds, r, hl, ha, q.good fun d k => ⟨fun e H' s => ?_, fun a b c x y H' e1 e2 e3 e4 e5 s o1 o2 => k (.ref a) H' s ?_⟩⟩
  · subst e
    exact k .non H' s rfl
  · subst e1
    have nb : ¬ A b := fun z => ha b z e4
    have nc : ¬ A c := fun z => ha c z e5
    have mv : Mv (fun z => (A z ∨ z = b) ∨ z = c) H' A H' := Mv.less fun b x => .inl (.inl x)
    simp only [Rep, RepL]
    exact ⟨a, _, rfl, e2, _, _, rfl, o1.rep mv nb, _, _, rfl, o2.rep mv nc, rfl⟩
/-- the name x calls a def that gives back a pair of new lists -/
def CallT (P : Program) (w : World) (K : Frag) (mg : Str → Option Value) (base : Heap) (k : Nat) (x : Str) (d : He.DefD) (ps : List Str) (n : Nat) (fm : List D → Res D) : Prop := ∃ f fd, mg x = some (.ref f) ∧ PySem.W.keepIn K (.ref f) = true ∧ Binds K fd ps [] ∧ FnOk P w K mg base (L2N.CX P w) k f fd ps (spT K n fm) ∧ Ar n fm ∧ FunD K d.name d.qual d.params d.body d.scope [] [] f fd
theorem CallT.le {P : Program} {w : World} {K : Frag} {mg : Str → Option Value} {base : Heap} {k : Nat} {x : Str} {d : He.DefD} {ps : List Str} {n : Nat} {fm : List D → Res D} (C : CallT P w K mg base k x d ps n fm) : CallOk P w K mg base k x d ps n fm := by
  obtain ⟨f, fd, h1, h2, h3, h4, h5⟩ := C
  exact ⟨f, fd, h1, h2, h3, h4.imp fun _ _ _ _ z => spT_le z, h5⟩
end Py
/-! Dict comprehensions, whatever their keys are. -/
/-! Dict comprehensions. -/
/-! A dict's keys walked, list(d), str(i). -/
/-! for t in zip(a, b), t a name. -/
/-! Texts: join, split, f-strings, int of a text, signs. -/
namespace Py
open PySem PySem.Spec PyProof.Rows L2 TL PySem.StrLaws
/-! ### the functions are the model's -/
theorem toNat_inj {a b : Char} (h : a.toNat = b.toNat) : a = b := Char.ext (UInt32.toNat_inj.mp h)
variable [WI]
end Py
/-! Every other item of a list: xs[::2], xs[k::2]. -/
/-! max of a tuple. -/
/-! One sign not in a text. -/
/-! xs.index(x) of a list of flat things. -/
/-! An own object is lent; its inner objects change. -/
namespace Py
variable [WI]
open PySem L2
/-- the inner objects that the datum shows -/
def usd : D → Bool → Bool
  | .ins c fs, t => fs.any fun q => inn c q.1 && ixF q.1 == t
  | _, _ => false
def useG (d : D) (G : GW) : GW := fun t => if usd d t = true then G t else none
theorem useG_some {d : D} {G : GW} {t : Bool} {b : Addr} (h : useG d G t = some b) : usd d t = true ∧ G t = some b := by
  unfold useG at h
  split at h
  · rename_i z
    exact ⟨z, h⟩
  · cases h
theorem RepI.use {K : Frag} {A : AS} {G G' : GW} {H : Hp} {c : String} : ∀ {fs : List (String × D)} {vs : List (Str × V)}, (∀ n d, (n, d) ∈ fs → inn c n = true → G' (ixF n) = G (ixF n)) → RepI K A G H c fs vs → RepI K A G' H c fs vs
  | [], vs, _, h => h
  | (n, d) :: fs, vs, hg, h => by
    obtain ⟨v, q, e, h1, h2⟩ := h
    refine ⟨v, q, e, ?_, RepI.use (fun n d hm => hg n d (List.mem_cons_of_mem _ hm)) h2⟩
    have z := hg n d List.mem_cons_self
    cases hi : inn c n with
    | true =>
      rw [hi] at h1
      obtain ⟨b, g, e2, o⟩ := h1
      exact ⟨b, (z hi).trans g, e2, o⟩
    | false =>
      rw [hi] at h1
      exact h1
theorem OwnG.use {K : Frag} {A : AS} {G : GW} {H : Hp} {a : Addr} {d : D} (h : OwnG K A G H a d) : OwnG K A (useG d G) H a d := by
  cases d with
  | ins c fs =>
    obtain ⟨dx, fvs, e, r⟩ := h
    refine ⟨dx, fvs, e, r.use fun n d hm hi => ?_⟩
    unfold useG
    rw [if_pos]
    exact List.any_eq_true.mpr ⟨(n, d), hm, by simp [hi]⟩
  | lst _ => exact h
  | dic _ _ => exact h
  | _ => exact h.elim
theorem RepI.used {K : Frag} {A : AS} {G : GW} {H : Hp} {c : String} {t : Bool} : ∀ {fs : List (String × D)} {vs : List (Str × V)}, RepI K A G H c fs vs → (fs.any fun q => inn c q.1 && ixF q.1 == t) = true → ∃ b d, G t = some b ∧ OwnAt K A H b d
  | [], vs, h, z => by cases z
  | (n, d) :: fs, vs, h, z => by
    obtain ⟨v, q, e, h1, h2⟩ := h
    rw [List.any_cons, Bool.or_eq_true] at z
    rcases z with z | z
    · rw [Bool.and_eq_true] at z
      dsimp only at z
      rw [z.1] at h1
      obtain ⟨b, g, _, o⟩ := h1
      rw [show ixF n = t by simpa using z.2] at g
      exact ⟨b, d, g, o⟩
    · exact RepI.used h2 z
theorem OwnG.inner {K : Frag} {A : AS} {G : GW} {H : Hp} {a : Addr} {d : D} (h : OwnG K A G H a d) {t : Bool} {b : Addr} (hb : useG d G t = some b) : ∃ u, H b = some u ∧ ¬ still u ∧ ∀ fvs, u ≠ .xd fvs := by
  obtain ⟨z, g⟩ := useG_some hb
  cases d with
  | ins c fs =>
    obtain ⟨dx, fvs, e, r⟩ := h
    obtain ⟨b', d', g', o⟩ := r.used z
    rw [g] at g'
    cases g'
    exact o.obj
  | _ => cases z
/-- the heap without the object at a and its inner ones -/
def cutH (a : Addr) (G : GW) (H : Hp) : Hp := fun b => if b = a ∨ G false = some b ∨ G true = some b then none else H b
theorem cut_out {a b : Addr} {G : GW} {H : Hp} (h1 : b ≠ a) (h2 : ∀ t, G t ≠ some b) : cutH a G H b = H b := if_neg fun z => by
  rcases z with z | z | z
  · exact h1 z
  · exact h2 false z
  · exact h2 true z
theorem cut_none {a b : Addr} {G : GW} {H : Hp} (h : cutH a G H b = none) : b = a ∨ (∃ t, G t = some b) ∨ H b = none := by
  unfold cutH at h
  split at h
  · rename_i z
    rcases z with z | z | z
    · exact .inl z
    · exact .inr (.inl ⟨_, z⟩)
    · exact .inr (.inl ⟨_, z⟩)
  · exact .inr (.inr h)
theorem cut_at {a : Addr} {G : GW} {H : Hp} : cutH a G H a = none := if_pos (.inl rfl)
theorem cut_in {a b : Addr} {G : GW} {H : Hp} {t : Bool} (h : G t = some b) : cutH a G H b = none := if_pos (by cases t; exact .inr (.inl h); exact .inr (.inr h))
theorem cut_same {a : Addr} {G : GW} {H : Hp} : Same (cutH a G H) H := fun b o e => by
  unfold cutH at e
  split at e
  · cases e
  · exact e
/-- an own object comes back -/
def lentO (i : Nat) (a : Addr) (G : GW) (O : OW) : OW := fun j => if j = 3 * i then some a else if j = 3 * i + 1 then G false else if j = 3 * i + 2 then G true else O j
theorem lent_self {i : Nat} {a : Addr} {G : GW} {O : OW} : lentO i a G O (3 * i) = some a := if_pos rfl
theorem lent_gh {i : Nat} {a : Addr} {G : GW} {O : OW} : gh (lentO i a G O) i = G := by
  funext t
  unfold gh lentO
  cases t
  · rw [if_neg (by simp), if_pos (by simp)]
  · rw [if_neg (by simp), if_neg (by simp), if_pos (by simp)]
theorem lent_other {i j : Nat} {a : Addr} {G : GW} {O : OW} (h : j / 3 ≠ i) : lentO i a G O j = O j := by
  unfold lentO
  rw [if_neg (by omega), if_neg (by omega), if_neg (by omega)]
theorem lent_cases {i j : Nat} {a b : Addr} {G : GW} {O : OW} (h : lentO i a G O j = some b) : (j = 3 * i ∧ b = a) ∨ (∃ t : Bool, j = 3 * i + (if t then 2 else 1) ∧ G t = some b) ∨ (j / 3 ≠ i ∧ O j = some b) := by
  unfold lentO at h
  split at h
  · rename_i z
    exact .inl ⟨z, (Option.some.inj h).symm⟩
  · rename_i z
    split at h
    · rename_i z1
      exact .inr (.inl ⟨false, by simpa using z1, h⟩)
    · rename_i z1
      split at h
      · rename_i z2
        exact .inr (.inl ⟨true, by simpa using z2, h⟩)
      · rename_i z2
        exact .inr (.inr ⟨by omega, h⟩)
/-- what the callee must leave alone -/
def Ac (A : AS) (i : Nat) (O : OW) : AS := fun b => A b ∨ ∃ j, j / 3 ≠ i ∧ O j = some b
theorem third (i : Nat) (t : Bool) : (3 * i + if t then 2 else 1) / 3 = i := by cases t <;> simp <;> omega
section
variable {K : Frag} {A : AS} {H0 : Base} {ow : Ow} {O : OW} {σ : L2.St} {H H' : Hp} {e : Env} {i : Nat} {a : Addr} {G : GW} {o l : D}
theorem ac_sub (p1 : O (3 * i) = some a) (hG : ∀ t b, G t = some b → gh O i t = some b) : ∀ b, gA (Ac A i O) a G b → AO A O b := fun b h => by
  rcases h with ((h | ⟨j, _, h⟩) | h) | ⟨t, h⟩
  · exact .inl h
  · exact .inr ⟨j, h⟩
  · rw [h]
    exact .inr ⟨_, p1⟩
  · exact .inr ⟨_, hG t b h⟩
theorem ER.lend (R : ER K A H0 ow O σ H e) (p1 : O (3 * i) = some a) : ¬ Ac A i O a := fun z => by
  rcases z with z | ⟨j, hj, z⟩
  · exact (R.fresh _ a p1).2.2 z
  · have := R.inj _ _ a p1 z
    omega
theorem ER.innG (R : ER K A H0 ow O σ H e) (p1 : O (3 * i) = some a) (hG : ∀ t b, G t = some b → gh O i t = some b) : Inn (Ac A i O) (fun _ => True) H a G := by
  refine ⟨fun t b h => ⟨trivial, (R.fresh _ b (hG t b h)).2.1, fun z => ?_, fun w => ?_⟩, fun t t' b h h' => ?_⟩
  · rcases z with z | ⟨j, hj, z⟩
    · exact (R.fresh _ b (hG t b h)).2.2 z
    · have := R.inj _ _ b (hG t b h) z
      rw [← this, third] at hj
      exact hj rfl
  · subst w
    have := R.inj _ _ b p1 (hG t b h)
    cases t <;> simp at this
  · have := R.inj _ _ b (hG t b h) (hG t' b h')
    cases t <;> cases t' <;> simp at this <;> rfl
/-- slot i's object comes back changed -/
theorem ER.lent {G' : GW} (R : ER K A H0 ow O σ H e) (hi : ow i = true) (he : e[i]? = some (some o)) (p1 : O (3 * i) = some a) (s : Same (cutH a (useG o (gh O i)) H) H') (n : Inn (Ac A i O) (fun b => cutH a (useG o (gh O i)) H b = none) H' a G')
    (g : OwnG K (gA (Ac A i O) a G') G' H' a l) : ER K A H0 ow (lentO i a G' O) σ H' (e.set i (some l)) ∧ Mv (AO A O) H (AO A (lentO i a G' O)) H' ∧ ∀ b, AO A (lentO i a G' O) b → gA (Ac A i O) a G' b := by
  obtain ⟨a1, q1, q2, r⟩ := R.owns i o he hi
  rw [p1] at q1
  cases q1
  -- what is neither the object nor within it is kept
  have out : ∀ b, b ≠ a → (∀ t, useG o (gh O i) t ≠ some b) → H b ≠ none → H' b = H b := fun b h1 h2 h3 => by
    cases z : H b with
    | none => exact absurd z h3
    | some u => exact s b u ((cut_out h1 h2).trans z)
  have far : ∀ j b, j / 3 ≠ i → O j = some b → b ≠ a ∧ ∀ t, useG o (gh O i) t ≠ some b := fun j b hj hb => ⟨fun w => by
    subst w
    have := R.inj _ _ b p1 hb
    omega, fun t z => by
    have := R.inj _ _ b (useG_some z).2 hb
    rw [← this, third] at hj
    exact hj rfl⟩
  have sub : ∀ b, AO A (lentO i a G' O) b → gA (Ac A i O) a G' b := fun b h => by
    rcases h with h | ⟨j, h⟩
    · exact .inl (.inl (.inl h))
    · rcases lent_cases h with ⟨_, h⟩ | ⟨t, _, h⟩ | ⟨hj, h⟩
      · exact .inl (.inr h)
      · exact .inr ⟨t, h⟩
      · exact .inl (.inl (.inr ⟨j, hj, h⟩))
  have na : ∀ b, A b → b ≠ a ∧ ∀ t, useG o (gh O i) t ≠ some b := fun b hb => ⟨fun w => by
    subst w
    exact (R.fresh _ b p1).2.2 hb, fun t z => (R.fresh _ b (useG_some z).2).2.2 hb⟩
  have nh : ∀ b, H0.hp b ≠ none → b ≠ a ∧ ∀ t, useG o (gh O i) t ≠ some b := fun b hb => ⟨fun w => by
    subst w
    exact hb (R.fresh _ b p1).1, fun t z => hb (R.fresh _ b (useG_some z).2).1⟩
  have mv : Mv (AO A O) H (AO A (lentO i a G' O)) H' := ⟨fun b hb => by
    rcases hb with hb | ⟨j, hb⟩
    · exact .inl (.inl hb)
    · rcases lent_cases hb with ⟨_, hb⟩ | ⟨t, _, hb⟩ | ⟨_, hb⟩
      · rw [hb]
        exact .inl (.inr ⟨_, p1⟩)
      · rcases cut_none (n.new t b hb).1 with z | ⟨t', z⟩ | z
        · rw [z]
          exact .inl (.inr ⟨_, p1⟩)
        · exact .inl (.inr ⟨_, (useG_some z).2⟩)
        · exact .inr z
      · exact .inl (.inr ⟨j, hb⟩), fun b u e1 hb => by
    have hne : H b ≠ none := by rw [e1]; exact fun z => nomatch z
    refine (out b (fun w => ?_) (fun t z => ?_) hne).trans e1
    · subst w
      rcases hb with hb | hb
      · exact hb (.inr ⟨_, p1⟩)
      · obtain ⟨u', e2, hs, _⟩ := r.obj
        rw [e1] at e2
        cases e2
        exact hs hb
    · rcases hb with hb | hb
      · exact hb (.inr ⟨_, (useG_some z).2⟩)
      · obtain ⟨u', e2, hs, _⟩ := r.inner z
        rw [e1] at e2
        cases e2
        exact hs hb⟩
  have hslot : ∀ j d, (e.set i (some l))[j]? = some (some d) → j ≠ i → e[j]? = some (some d) := fun j d h hj => by
    rwa [List.getElem?_set_ne fun z => hj z.symm] at h
  have ha' : H' a ≠ none := by
    obtain ⟨u, hu, _⟩ := g.obj
    rw [hu]
    exact fun z => nomatch z
  refine ⟨⟨by simp [R.len], fun b hb => ?_, fun b u e1 => ?_, fun j d h1 h2 => ?_, fun j d h1 h2 => ?_, fun j b hb => ?_, fun j k b hj hk => ?_, fun b hb => ?_, fun q hq => ?_⟩, mv, sub⟩
  · rw [out b (na b hb).1 (na b hb).2 (R.a0 b hb)]
    exact R.a0 b hb
  · have hne : H0.hp b ≠ none := by rw [e1]; exact fun z => nomatch z
    have e2 := R.same b u e1
    rw [out b (nh b hne).1 (nh b hne).2 (by rw [e2]; exact fun z => nomatch z)]
    exact e2
  · have hj : j ≠ i := fun z => by
      rw [z, hi] at h2
      cases h2
    obtain ⟨v, q, r1⟩ := R.vals j d (hslot j d h1 hj) h2
    exact ⟨v, q, Rep.move mv _ _ r1⟩
  · by_cases hj : j = i
    · subst hj
      have hl : j < e.length := (List.getElem?_eq_some_iff.mp he).1
      rw [List.getElem?_set_self hl] at h1
      cases h1
      refine ⟨a, lent_self, q2, ?_⟩
      rw [lent_gh]
      exact g.move (Mv.less sub) rfl fun t b z => ⟨z, rfl⟩
    · obtain ⟨b, r1, r2, r3⟩ := R.owns j d (hslot j d h1 hj) h2
      have f1 := far _ b (by omega) r1
      refine ⟨b, (lent_other (by omega)).trans r1, r2, r3.move mv (out b f1.1 f1.2 (R.fresh _ b r1).2.1) fun t c z => ?_⟩
      have hj2 : (3 * j + if t then 2 else 1) / 3 ≠ i := by rw [third]; exact hj
      have f2 := far _ c hj2 z
      exact ⟨(lent_other hj2).trans z, out c f2.1 f2.2 (R.fresh _ c z).2.1⟩
  · rcases lent_cases hb with ⟨_, hb⟩ | ⟨t, _, hb⟩ | ⟨hj, hb⟩
    · subst hb
      exact ⟨(R.fresh _ b p1).1, ha', (R.fresh _ b p1).2.2⟩
    · obtain ⟨z1, z2, z3, z4⟩ := n.new t b hb
      refine ⟨?_, z2, fun w => z3 (.inl w)⟩
      rcases cut_none z1 with z | ⟨t', z⟩ | z
      · exact absurd z z4
      · exact (R.fresh _ b (useG_some z).2).1
      · cases w : H0.hp b with
        | none => rfl
        | some u => rw [R.same b u w] at z; cases z
    · have f1 := far j b hj hb
      rw [out b f1.1 f1.2 (R.fresh _ b hb).2.1]
      exact R.fresh _ b hb
  · have key : ∀ t j b, G' t = some b → j / 3 ≠ i → O j = some b → False := fun t j b h1 hj h2 => by
      have z := (n.new t b h1).2.2.1
      exact z (.inr ⟨j, hj, h2⟩)
    rcases lent_cases hj with ⟨z1, z2⟩ | ⟨t, z1, z2⟩ | ⟨z1, z2⟩ <;> rcases lent_cases hk with ⟨y1, y2⟩ | ⟨t', y1, y2⟩ | ⟨y1, y2⟩
    · omega
    · exact absurd z2 (n.new t' b y2).2.2.2
    · exact absurd z2 (far k b y1 y2).1
    · exact absurd y2 (n.new t b z2).2.2.2
    · rw [z1, y1, n.inj t t' b z2 y2]
    · exact (key t k b z2 y1 y2).elim
    · exact absurd y2 (far j b z1 z2).1
    · exact (key t' j b y2 z1 z2).elim
    · exact R.inj j k b z2 y2
  · have z := R.pin b hb
    by_cases h0 : i = 0
    · subst h0
      have e1 : b = a := Option.some.inj (z.symm.trans p1)
      rw [e1]
      exact lent_self
    · exact (lent_other (by omega)).trans z
  · obtain ⟨h1, h2, h3, fvs, h4, h5⟩ := R.exq q hq
    refine ⟨h1, h2, fun d z => ?_, fvs, ?_, RepF.move mv _ _ h5⟩
    · by_cases hj : q.i = i
      · exact h3 o (hj ▸ he)
      · exact h3 d (hslot _ d z hj)
    · refine (out q.da (fun w => ?_) (fun t z => ?_) (by rw [h4]; exact fun z => nomatch z)).trans h4
      · obtain ⟨u, e2, _, hx⟩ := r.obj
        rw [← w, h4] at e2
        exact hx fvs (Option.some.inj e2).symm
      · obtain ⟨u, e2, _, hx⟩ := r.inner z
        rw [h4] at e2
        exact hx fvs (Option.some.inj e2).symm
/-! ### an inner object changes -/
theorem inn_ix {c n f : String} (h1 : inn c n = true) (h2 : inn c f = true) (h : ixF n = ixF f) : n = f := by
  unfold inn at h1 h2
  unfold ixF at h
  simp only [Bool.or_eq_true, Bool.and_eq_true, beq_iff_eq] at h1 h2
  rcases h1 with (⟨rfl, rfl | rfl⟩ | ⟨rfl, rfl⟩) | ⟨rfl, rfl⟩ <;> rcases h2 with (⟨e, rfl | rfl⟩ | ⟨e, rfl⟩) | ⟨e, rfl⟩ <;> first | rfl | (simp at h; done) | (simp at e; done)
theorem RepI.upd1 {K : Frag} {A A' : AS} {G : GW} {H H' : Hp} {c f : String} {b : Addr} {d1 : D} (hf : inn c f = true) (m : Mv A H A' H') (hb : G (ixF f) = some b) (kg : ∀ t c, t ≠ ixF f → G t = some c → H' c = H c) (o : OwnAt K A' H' b d1) :
    ∀ {fs : List (String × D)} {vs : List (Str × V)}, (fs.map (·.1)).Nodup → (fs.lookup f).isSome = true → RepI K A G H c fs vs → RepI K A' G H' c (putF f d1 fs) vs
  | [], vs, _, z, h => by cases z
  | (n, d0) :: fs, vs, nd, z, h => by
    obtain ⟨v, q, e, h1, h2⟩ := h
    simp only [List.map_cons, List.nodup_cons] at nd
    by_cases hn : n = f
    · subst hn
      simp only [putF, if_pos]
      refine ⟨v, q, e, ?_, ?_⟩
      · rw [hf] at h1 ⊢
        obtain ⟨b', g, e2, _⟩ := h1
        rw [hb] at g
        cases g
        exact ⟨b, hb, e2, o⟩
      · have rest : ∀ {fs : List (String × D)} {vs : List (Str × V)}, n ∉ fs.map (·.1) → RepI K A G H c fs vs → RepI K A' G H' c fs vs := by
          intro fs
          induction fs with
          | nil => intro vs _ h; exact h
          | cons x fs ih =>
            intro vs hx h
            obtain ⟨v, q, e, h1, h2⟩ := h
            simp only [List.map_cons, List.mem_cons, not_or] at hx
            refine ⟨v, q, e, ?_, ih hx.2 h2⟩
            cases hi : inn c x.1 with
            | true =>
              rw [hi] at h1
              obtain ⟨b', g, e2, o'⟩ := h1
              exact ⟨b', g, e2, o'.move m (kg _ _ (fun w => hx.1 (inn_ix hi hf w).symm) g)⟩
            | false =>
              rw [hi] at h1
              exact Rep.move m _ _ h1
        exact rest nd.1 h2
    · simp only [putF, if_neg hn]
      have hn' : (f == n) = false := beq_eq_false_iff_ne.mpr fun w => hn w.symm
      simp only [List.lookup_cons, hn'] at z
      refine ⟨v, q, e, ?_, RepI.upd1 hf m hb kg o nd.2 z h2⟩
      cases hi : inn c n with
      | true =>
        rw [hi] at h1
        obtain ⟨b', g, e2, o'⟩ := h1
        exact ⟨b', g, e2, o'.move m (kg _ _ (fun w => hn (inn_ix hi hf w)) g)⟩
      | false =>
        rw [hi] at h1
        exact Rep.move m _ _ h1
/-- slot i's object has an inner one, which changes -/
theorem ER.writeI (R : ER K A H0 ow O σ H e) {c f : String} {fs : List (String × D)} {d1 : D} {b : Addr} {ob : HO} (hi : ow i = true) (he : e[i]? = some (some (.ins c fs))) (hf : inn c f = true) (nd : (fs.map (·.1)).Nodup) (hl : (fs.lookup f).isSome = true)
    (hb : gh O i (ixF f) = some b) (h : OwnAt K (AO A O) (upd H b ob) b d1) (hs : ∃ u, H b = some u ∧ ¬ still u ∧ ∀ fvs, u ≠ .xd fvs) : ER K A H0 ow O σ (upd H b ob) (e.set i (some (.ins c (putF f d1 fs)))) ∧ Mv (AO A O) H (AO A O) (upd H b ob) := by
  obtain ⟨u0, hu0, hs0, hx0⟩ := hs
  have mv : Mv (AO A O) H (AO A O) (upd H b ob) := ⟨fun c hc => .inl hc, fun c u e1 hc => by
    rw [upd_ne]
    · exact e1
    · intro z
      subst z
      rcases hc with hc | hc
      · exact hc (.inr ⟨_, hb⟩)
      · rw [hu0] at e1
        cases e1
        exact hs0 hc⟩
  have hne : ∀ {H1 : Hp} {c : Addr}, H1 c ≠ none → (upd H1 b ob) c ≠ none := fun {H1 c} h => by
    unfold upd
    split
    · exact fun z => nomatch z
    · exact h
  have far : ∀ j c, O j = some c → j ≠ (3 * i + if ixF f then 2 else 1) → upd H b ob c = H c := fun j c hc hj => upd_ne fun w => by
    subst w
    exact hj (R.inj _ _ c hc hb)
  have hslot : ∀ j d, (e.set i (some (.ins c (putF f d1 fs))))[j]? = some (some d) → j ≠ i → e[j]? = some (some d) := fun j d h hj => by
    rwa [List.getElem?_set_ne fun z => hj z.symm] at h
  refine ⟨⟨by simp [R.len], fun c hc => hne (R.a0 c hc), fun c u e1 => ?_, fun j dj h1 h2 => ?_, fun j dj h1 h2 => ?_, fun j c hc => ⟨(R.fresh j c hc).1, hne (R.fresh j c hc).2.1, (R.fresh j c hc).2.2⟩, R.inj, R.pin, fun q hq => ?_⟩, mv⟩
  · rw [upd_ne]
    · exact R.same c u e1
    · intro z
      rw [z, (R.fresh _ b hb).1] at e1
      cases e1
  · have hj : j ≠ i := fun z => by
      rw [z, hi] at h2
      cases h2
    obtain ⟨v, q, r⟩ := R.vals j dj (hslot j dj h1 hj) h2
    exact ⟨v, q, Rep.move mv _ _ r⟩
  · by_cases hj : j = i
    · subst hj
      have hlt := (List.getElem?_eq_some_iff.mp he).1
      rw [List.getElem?_set_self hlt] at h1
      cases h1
      obtain ⟨a, p1, p2, dx, fvs, p3, p4⟩ := R.owns j _ he hi
      refine ⟨a, p1, p2, dx, fvs, (far _ a p1 (by split <;> omega)).trans p3, RepI.upd1 hf mv hb (fun t c ht hc => far _ c hc fun w => ht ?_) h nd hl p4⟩
      cases t <;> cases hx : ixF f <;> simp [hx] at w ⊢
    · obtain ⟨a, p1, p2, p3⟩ := R.owns j dj (hslot j dj h1 hj) h2
      refine ⟨a, p1, p2, p3.move mv (far _ a p1 fun w => ?_) fun t c z => ⟨z, far _ c z fun w => ?_⟩⟩
      · have := third i (ixF f)
        rw [← w] at this
        omega
      · have h3 := third i (ixF f)
        rw [← w, third] at h3
        exact hj h3
  · obtain ⟨h1, h2, h3, fvs, h4, h5⟩ := R.exq q hq
    refine ⟨h1, h2, fun d z => ?_, fvs, ?_, RepF.move mv _ _ h5⟩
    · by_cases hj : q.i = i
      · exact h3 _ (hj ▸ he)
      · exact h3 d (hslot _ d z hj)
    · rw [upd_ne fun w => ?_]
      · exact h4
      · rw [w, hu0] at h4
        exact hx0 fvs (Option.some.inj h4)
end
end Py
/-! Expressions and statements that change own objects. -/
namespace Py
variable [WI]
open PySem L2
def tX (K : Frag) (W : WX) (ow : Ow) (m : XM) : TE := fun σ H Q => ∃ A H0 O e, ER K A H0 ow O σ H e ∧
  Out (m e) (fun p => ∀ v O' H', ER K A H0 ow O' σ H' p.2 → Mv (AO A O) H (AO A O') H' → Rep K (AO A O') H' p.1 v → Q v H') (badS K W A H0)
def tXA (K : Frag) (W : WX) (ow : Ow) (m : XA) : TA := fun σ H Q => ∃ A H0 O e, ER K A H0 ow O σ H e ∧
  Out (m e) (fun p => ∀ vs O' H', ER K A H0 ow O' σ H' p.2 → Mv (AO A O) H (AO A O') H' → RepL K (AO A O') H' p.1 vs → Q vs H') (badS K W A H0)
section
variable {X : Cx} [CW X] {W : WX} {ow : Ow} {a b c e : Expr} {es : List Expr} {m : EM} {t0 : TM} {mx my : XM} {tx ty : XT} {am : XA} {pos : Pos}
theorem x_up (h : PE X e (tE X.K W ow m)) : PE X e (tX X.K W ow (upX m)) := PE.of h fun σ H Q ⟨A, H0, O, en, R, q⟩ => ⟨A, H0, O, en, R, ((Out.bind q).se R).good fun d q1 v H' s r => q1 v O H' (R.to s) (Mv.same s) r⟩
theorem xx_nil : PA X [] (tXA X.K W ow xaN) := PA.of pa_nil fun σ H Q ⟨A, H0, O, en, R, q⟩ => q [] O H R Mv.refl (by simp [RepL])
theorem xx_cons (ha : PE X e (tX X.K W ow mx)) (hr : PA X es (tXA X.K W ow am)) (hs : starEach (e :: es) X.env = (false, eval e X.env) :: starEach es X.env := by rfl) : PA X (e :: es) (tXA X.K W ow (xaC mx am)) :=
  PA.of (pa_cons ha hr hs) fun σ H Q ⟨A, H0, O, en, R, q⟩ => ⟨A, H0, O, en, R, (Out.bind q).good fun p q1 v O1 H1 R1 m1 r1 => ⟨A, H0, O1, p.2, R1, (Out.bind q1).good fun p2 q2 vs O2 H2 R2 m2 r2 =>
    q2 (v :: vs) O2 H2 R2 (m1.trans m2) (by
      simp only [RepL]
      exact ⟨v, vs, rfl, Rep.move m2 _ _ r1, r2⟩)⟩⟩
/-! ### tests -/
/-! ### calls of defs that change nothing -/
end
/-! ### statements -/
section
variable {fr : Rm} {X : Cx} [CW X] {W : WX} {ow oN oB : Ow} {a b c e : Expr} {es : List Expr} {m mj : EM} {mx my : XM} {tx : XT} {st : Stmt} {rest body orelse : List Stmt} {u v : SM} {pos : Pos}
/-- return of a def that was lent an object -/
theorem s_retL (h : PE X a (tX X.K W ow mx)) (h0 : ow 0 = true) : PS X (.Return (some a) pos) (tS3 .lent X.K W ow oN oB (retL mx)) :=
  PS.of (ps_ret h) fun D σ H ⟨A, H0, O, en, R, q⟩ => ⟨A, H0, O, en, R, (Out.bind q).good fun p q1 v O1 H1 R1 m1 r1 => by
    obtain ⟨l, hl, q2⟩ := var_ok q1
    have q3 : EndOk3 .lent X.K A H0 oN oB O H D (.ret (.tup [p.1, l])) := q2
    exact q3 v H1 R1.same ⟨p.1, l, rfl, fun x hx => R1.back hx r1 hl h0⟩⟩
/-- x.append(m), m changes another own object -/
theorem s_appX {i : Nat} (h : PS X st (tDrop (tBM X.K "list" rAppend (tVar i) (tCons (tX X.K W ow mx) tNil)))) (hi : ow i = true) : PS X st (tS fr X.K W ow (appX i mx)) :=
  PS.of h fun D σ H ⟨A, H0, O, en, R, q⟩ => by
    obtain ⟨l0, hl0, q0⟩ := var_ok q
    obtain ⟨a, p1, p2, p3⟩ := R.owns i l0 hl0 hi
    cases l0 with
    | lst ds0 =>
      obtain ⟨vs0, e0, _⟩ := p3
      have q00 := Out.bind q0
      change Out (mx en >>= _) _ _ at q00
      refine ⟨.ref a, p2, sqL e0, A, H0, O, en, R, (Out.bind q00).good fun p q1 v O1 H1 R1 m1 r1 => ?_⟩
      obtain ⟨l, hl, q2⟩ := var_ok q1
      obtain ⟨a', p1', p2', p3'⟩ := R1.owns i l hl hi
      have ea : a' = a := by
        rw [p2] at p2'
        cases p2'
        rfl
      subst ea
      cases l with
      | lst ds =>
        obtain ⟨vs, e1, rl⟩ := p3'
        dsimp only at q2
        split at q2
        · rename_i hz
          refine ⟨a', vs, v, rfl, rfl, e1, by rw [← rl.length]; exact hz, ?_⟩
          have mv := own_mv R1 p1' (o := .lst (vs ++ [v])) e1 fun z => z
          have R2 := R1.write (o := .lst (vs ++ [v])) (d' := .lst (ds ++ [p.1])) hi hl p1' ⟨_, upd_same, RepL.move mv _ _ (rl.append (RepL.one r1))⟩
          exact q2 O1 σ _ R2 (m1.trans mv)
        · exact q2.elim
      | _ => exact q2.elim
    | _ => exact q0.elim
end
end Py
/-! Defs that are lent an object. -/
namespace Py
variable [WI]
open PySem L2
/-- what comes back of a def that was lent the object at a -/
def LentR (K : Frag) (A : AS) (a : Addr) (G : GW) (H H' : Hp) (dr : D) (v : V) : Prop := ∃ r l', dr = .tup [r, l'] ∧ ∃ G', Inn A (fun b => cutH a G H b = none) H' a G' ∧ Rep K (gA A a G') H' r v ∧ OwnG K (gA A a G') G' H' a l'
def spL (K : Frag) (p : Nat) (m : List D → Res D) : Sp := fun vs H Q E => ∃ A G a l ds ws, vs = .ref a :: ws ∧ OwnG K (gA A a G) G H a l ∧ Inn A (fun _ => True) H a G ∧ ¬ A a ∧ RepL K (gA A a G) H ds ws ∧ ds.length + 1 = p ∧ (∀ b, A b → H b ≠ none) ∧
  Out (m (l :: ds)) (fun dr => ∀ v H', Same (cutH a G H) H' → LentR K A a G H H' dr v → Q v H') (fun c fs => ∀ da H' fvs, Same (cutH a G H) H' → H' da = some (.xd fvs) → RepF K A H' fs fvs → E (.ref (ca K c)) (some da) H')
theorem ar_fnL {p n : Nat} {body : SM} : Ar p (fnL p n body) := ⟨fun ds h => if_neg h⟩
section
variable {P : Program} {w : World} [HW w] {K : Frag} {mg : Str → Option Value} {base : Heap} {name qual : Str} {params : Arguments} {body : List Stmt} {scope : Scope} {dvs : List V} {kws : List (Str × V)} {f : Addr} {fd : FuncData} {N ps : List Str} {k : Nat} {ow oN oB : Ow} {m : SM}
/-- the frame at the start of such a def -/
theorem lent_start {E : XK} {vs : List V} {H : Hp} {Q : VK} (hN : ps.length ≤ N.length) (hx : ow.x = none) (h0 : ow 0 = true) (hN0 : oN 0 = true) (hp : ∀ i, 0 < i → i < ps.length → ow i = false) (hn : ∀ i, ps.length ≤ i → True) (h : spL K ps.length (fnL ps.length N.length m) vs H Q E) :
    tS3 .lent K (WD E) ow oN oB m { nx := fun _ H' => Q .non H', rt := Q } (L2.start N vs) H := by
  obtain ⟨A, G, a, l, ds, ws, rfl, g, inn, na, r, hl, ha, q⟩ := h
  have hlv := r.length
  have hps : 0 < ps.length := by omega
  refine ⟨A, ⟨cutH a G H, some a⟩, fun j => if j = 0 then some a else if j = 1 then G false else if j = 2 then G true else none, (some l :: ds.map some) ++ List.replicate (N.length - ps.length) none, ?_, ?_⟩
  · have hO : ∀ j b, (if j = 0 then some a else if j = 1 then G false else if j = 2 then G true else none) = some b → (j = 0 ∧ b = a) ∨ ∃ t : Bool, j = (if t then 2 else 1) ∧ G t = some b := fun j b h => by
      split at h
      · rename_i z
        exact .inl ⟨z, (Option.some.inj h).symm⟩
      · split at h
        · rename_i z
          exact .inr ⟨false, z, h⟩
        · split at h
          · rename_i z
            exact .inr ⟨true, z, h⟩
          · cases h
    have sub : ∀ b, AO A (fun j => if j = 0 then some a else if j = 1 then G false else if j = 2 then G true else none) b → gA A a G b := fun b hb => by
      rcases hb with hb | ⟨j, hb⟩
      · exact .inl (.inl hb)
      · rcases hO j b hb with ⟨_, z⟩ | ⟨t, _, z⟩
        · exact .inl (.inr z)
        · exact .inr ⟨t, z⟩
    have hgh : gh (fun j => if j = 0 then some a else if j = 1 then G false else if j = 2 then G true else none) 0 = G := by
      funext t
      cases t <;> rfl
    refine ⟨?_, ha, cut_same, fun i d g1 g2 => ?_, fun i d g1 g2 => ?_, fun j b hb => ?_, fun j k b hj hk => ?_, fun b hb => ?_, XFact.none hx⟩
    · unfold L2.start
      simp only [List.length_append, List.length_map, List.length_replicate, List.length_cons]
      omega
    · cases i with
      | zero =>
        rw [h0] at g2
        cases g2
      | succ i =>
        by_cases hi : i < ds.length
        · rw [List.getElem?_append_left (by simpa using hi), List.getElem?_cons_succ, List.getElem?_map, List.getElem?_eq_getElem hi] at g1
          simp only [Option.map_some, Option.some.injEq] at g1
          subst g1
          obtain ⟨v, hv, rv⟩ := r.get (List.getElem?_eq_getElem hi)
          exact ⟨v, start_get (by simpa using hv), Rep.move (Mv.less sub) _ _ rv⟩
        · rw [List.getElem?_append_right (by simpa using hi)] at g1
          rw [List.getElem?_replicate] at g1
          split at g1 <;> cases g1
    · cases i with
      | zero =>
        simp only [List.cons_append, List.getElem?_cons_zero, Option.some.injEq] at g1
        subst g1
        refine ⟨a, rfl, start_get rfl, ?_⟩
        rw [hgh]
        exact g.move (Mv.less sub) rfl fun t b z => ⟨z, rfl⟩
      | succ i =>
        by_cases hi : i < ds.length
        · rw [hp (i + 1) (by omega) (by omega)] at g2
          cases g2
        · rw [List.getElem?_append_right (by simpa using hi)] at g1
          rw [List.getElem?_replicate] at g1
          split at g1 <;> cases g1
    · rcases hO j b hb with ⟨_, rfl⟩ | ⟨t, _, z⟩
      · obtain ⟨u, hu, _⟩ := g.obj
        exact ⟨cut_at, by rw [hu]; exact (fun z => nomatch z), na⟩
      · obtain ⟨_, z2, z3, z4⟩ := inn.new t b z
        exact ⟨cut_in z, z2, z3⟩
    · rcases hO j b hj with ⟨z1, z2⟩ | ⟨t, z1, z2⟩ <;> rcases hO k b hk with ⟨y1, y2⟩ | ⟨t', y1, y2⟩
      · omega
      · exact absurd z2 (inn.new t' b y2).2.2.2
      · exact absurd y2 (inn.new t b z2).2.2.2
      · rw [z1, y1, inn.inj t t' b z2 y2]
    · cases hb
      rfl
  · unfold fnL at q
    rw [if_pos (show (l :: ds).length = ps.length from hl)] at q
    refine (Out.bind q).imp (fun fl _ q => ?_) fun c fs q => ?_
    · cases fl with
      | next e' =>
        refine fun O' σ' H' R' _ => ?_
        unfold doneL at q
        dsimp only at q
        split at q
        · rename_i l' hl'
          exact q .non H' R'.same ⟨.non, l', rfl, R'.back rfl (d := .non) (v := .non) (by simp [Rep]) hl' hN0⟩
        · exact q.elim
      | ret d => exact fun v H' s' ⟨r', l', e1, z⟩ => q v H' s' ⟨r', l', e1, z a rfl⟩
      | brk e' => exact q.elim
      | cnt e' => exact q.elim
    · exact fun σ' da H' fvs s' q' r' => q da H' fvs s' q' r'
theorem fn_okL (F : FunD K name qual params body scope dvs kws f fd) (S : FnScope N ps scope) (hx : ow.x = none) (h0 : ow 0 = true) (hN0 : oN 0 = true) (hp : ∀ i, 0 < i → i < ps.length → ow i = false)
    (hb : ∀ (cdv : Value) (A : Around) (outer : List PySem.Env) (s : Shared) (H : Hp) (E : XK), Ctx (cxOf (L2N.CX P w) P w K mg base N qual scope f cdv A outer s H E) (WD E) k →
      PSs (cxOf (L2N.CX P w) P w K mg base N qual scope f cdv A outer s H E) body (tS3 .lent K (WD E) ow oN oB m)) :
    FnOk P w K mg base (L2N.CX P w) (k + 1) f fd ps (spL K ps.length (fnL ps.length N.length m)) := by
  refine F.ok S (fun vs H Q E ⟨A, G, a, l, ds, ws, e, _, _, _, r, h, _⟩ => by rw [e, List.length_cons, ← r.length]; exact h) (fun cdv A outer s H vs Q E hr h => ?_)
  exact ⟨tS3 .lent K (WD E) ow oN oB m, hb cdv A outer s H E ⟨rfl, L2N.takes_of rfl rfl rfl rfl, passes_of rfl, hr, S.nd⟩, lent_start (pre_le S.pre) hx h0 hN0 hp (fun _ _ => trivial) h⟩
end
structure MethL (P : Program) (w : World) (K : Frag) (mg : Str → Option Value) (base : Heap) (k : Nat) (cls mn : String) (n : Nat) (fm : List D → Res D) : Prop where
  ex : ∃ f fd ps, Cls K (ca K cls) ∧ Meth K (ca K cls) (Str.ofString mn) f ∧ Binds K fd ps [] ∧ FnOk P w K mg base (L2N.CX P w) k f fd ps (spL K n fm) ∧ Ar n fm
section
variable {P : Program} {w : World} [HW w] {K : Frag} {mg : Str → Option Value} {base : Heap} {k : Nat} {ow oN oB : Ow} {m : SM} {f : Addr} {N ps : List Str} {p n : Nat} {cls mn : String}
theorem meth_defL {d : He.DefD} (F : ∃ fd, FunD K d.name d.qual d.params d.body d.scope [] [] f fd) (hc : Cls K (ca K cls)) (hme : Meth K (ca K cls) (Str.ofString mn) f) (S : FnScope N ps d.scope) (hpl : ps.length = p) (hnl : N.length = n) (h0 : ow 0 = true) (hN0 : oN 0 = true) (hp : ∀ i, i < p → 0 < i → ow i = false)
    (hbind : ∀ (kV doc pm : Value) (an : Option Addr) (cdv ct : Value) (us : List Value), us.length = ps.length → bindArgs (PySem.W.fnOf d.name d.qual d.params d.body d.scope .none kV doc pm an cdv ct) ⟨us, []⟩ = pure (ps.zip us))
    (hb : ∀ (cdv : Value) (A : Around) (outer : List PySem.Env) (s : Shared) (H : Hp) (E : XK), Ctx (cxOf (L2N.CX P w) P w K mg base N d.qual d.scope f cdv A outer s H E) (WD E) k →
      PSs (cxOf (L2N.CX P w) P w K mg base N d.qual d.scope f cdv A outer s H E) d.body (tS3 .lent K (WD E) ow oN oB m)) (hx : ow.x = none := by rfl) : MethL P w K mg base (k + 1) cls mn p (fnL p n m) := by
  obtain ⟨fd, F⟩ := F
  subst hpl hnl
  exact ⟨f, fd, ps, hc, hme, FunD.bindsN F hbind, fn_okL F S hx h0 hN0 (fun i a b => hp i b a) hb, ar_fnL⟩
end
section
variable {X : Cx} [CW X] {W : WX} {A : AS} {H0 : Base} {ow : Ow} {O : OW} {σ : L2.St} {H : Hp} {o e e0 : Expr} {es : List Expr} {am : XA} {pos apos p : Pos} {k j n i : Nat} {x : Str} {fm : List D → Res D} {d : He.DefD} {ps : List Str} {cls mn : String}
/-- slot i's object is lent to fm -/
theorem lend_of {K : Frag} {en : Env} {a : Addr} {od : D} {ds : List D} {ws : List V} {Q : VK} {E : XK} (hn : Ar n fm) (R : ER K A H0 ow O σ H en) (hi : ow i = true) (ho : en[i]? = some (some od)) (p1 : O (3 * i) = some a) (r : RepL K (AO A O) H ds ws)
    (q : Out (fm (od :: ds)) (fun dr => Out (backX i en dr) (fun p => ∀ v O' H', ER K A H0 ow O' σ H' p.2 → Mv (AO A O) H (AO A O') H' → Rep K (AO A O') H' p.1 v → Q v H') (badS K W A H0)) (badS K W A H0)) (hE : ∀ cls d H, W cls d σ H → E cls d H) :
    spL K n fm (.ref a :: ws) H Q E := by
  obtain ⟨a', p1', p2', g⟩ := R.owns i od ho hi
  rw [p1] at p1'
  cases p1'
  have hG : ∀ t b, useG od (gh O i) t = some b → gh O i t = some b := fun t b h => (useG_some h).2
  have sub := ac_sub (A := A) (i := i) (O := O) (G := useG od (gh O i)) p1 hG
  have hn1 := hn.len q
  have hsame : Same H0.hp (cutH a (useG od (gh O i)) H) := fun b u e1 => by
    have hne : H0.hp b ≠ none := by rw [e1]; exact fun z => nomatch z
    rw [cut_out (fun w => ?_) fun t z => hne (R.fresh _ b (hG t b z)).1]
    · exact R.same b u e1
    · subst w
      exact hne (R.fresh _ b p1).1
  refine ⟨Ac A i O, useG od (gh O i), a, od, ds, ws, rfl, g.use.move (Mv.less sub) rfl fun t b z => ⟨z, rfl⟩, R.innG p1 hG, R.lend p1, RepL.move (Mv.less sub) _ _ r, by simpa using hn1, fun b hb => R.there b (sub b (.inl (.inl hb))), q.imp (fun dr _ z v H' s ⟨r', l', e1, G', n', rr, g'⟩ => ?_) fun c fs z da H' fvs s hx rf => hE _ _ _ (z σ da H' fvs (hsame.trans s) hx (RepF.move (Mv.less fun b => .inl) _ _ rf))⟩
  subst e1
  obtain ⟨R3, mv3, sub3⟩ := R.lent hi ho p1 s n' g'
  exact z v _ H' R3 mv3 (Rep.move (Mv.less sub3) _ _ rr)
theorem RepI.noLook {K : Frag} {A : AS} {G : GW} {H : Hp} {c f : String} : ∀ {fs : List (String × D)} {vs : List (Str × V)}, RepI K A G H c fs vs → fs.lookup f = none → vs.lookup (Str.ofString f) = none
  | [], vs, h, _ => by
    cases h
    rfl
  | (n, d0) :: fs, vs, h, z => by
    obtain ⟨v, r, rfl, h1, h2⟩ := h
    by_cases e : f = n
    · subst e
      simp at z
    · have e2 : (Str.ofString f == Str.ofString n) = false := beq_eq_false_iff_ne.mpr fun q => e (ofS_inj q)
      have e3 : (f == n) = false := beq_eq_false_iff_ne.mpr e
      simp only [List.lookup_cons, e2, e3] at z ⊢
      exact RepI.noLook h2 z
theorem lendM_of {C : Addr} {m : Str} (hC : C = ca X.K cls) (hm : m = Str.ofString mn) (hn : Ar n fm) (hi : ow i = true) (hW : ∀ c d σ σ' H, W c d σ H → W c d σ' H) {σ : L2.St} {H : Hp} {Q : VK}
    (h : tX X.K W ow (lendM cls mn i fm am) σ H Q) : tMeth C m (spL X.K n fm) [] (fun c d H => ∀ σ, W c d σ H) (tVar i) (tXA X.K W ow am) σ H Q := by
  subst hC hm
  obtain ⟨A, H0, O, en, R, q⟩ := h
  obtain ⟨o0, ho0, q1⟩ := var_ok q
  obtain ⟨a, p1, p2, g⟩ := R.owns i o0 ho0 hi
  cases o0 with
  | ins c' fs =>
    simp only at q1
    split at q1
    · rename_i hc
      obtain ⟨rfl, hl⟩ := hc
      obtain ⟨dx, fvs, e1, r⟩ := g
      obtain ⟨_, _, q1'⟩ := var_ok q1
      refine ⟨.ref a, p2, a, dx, fvs, rfl, e1, r.noLook (Option.isNone_iff_eq_none.mp hl), A, H0, O, en, R, (Out.bind q1').good fun p q2 ws O1 H1 R1 m1 r1 => ?_⟩
      obtain ⟨o, ho, q3⟩ := var_ok q2
      obtain ⟨a', p1', p2', _⟩ := R1.owns i o ho hi
      have ea : a' = a := by
        rw [p2] at p2'
        cases p2'
        rfl
      subst ea
      rw [show ws ++ [] = ws from List.append_nil _]
      exact lend_of (W := W) hn R1 hi ho p1' r1 ((Out.bind q3).good fun dr z => z.good fun p z v O' H' R' m' r' => z v O' H' R' (m1.trans m') r') fun _ _ _ z σ' => hW _ _ _ σ' _ z
    · exact q1.elim
  | _ => exact q1.elim
theorem x_lendM {pl : Sem Bool} {m : Str} (hm : m = Str.ofString mn) (T : Ctx X W j) (C : MethL X.prog X.w X.K X.mg X.base k cls mn n fm) (hk : k ≤ j) (hW : ∀ c d σ σ' H, W c d σ H → W c d σ' H) (ho : PE X o (tVar i)) (hi : ow i = true) (ha : PA X (e :: es) (tXA X.K W ow am))
    (hst : starEach (e :: es) X.env = (false, eval e X.env) :: starEach es X.env := by rfl) (hpl : (backTo pos (starEach es X.env)).any (·.1) = false := by rfl)
    (ht : eval (.Call (.Attribute o m apos) (e :: es) [] pos) X.env = (do
      let ov ← eval o X.env
      standAt apos.atName
      let (f, first) ← holding [ov] (getMethod ov m pl)
      callWith pos f first (backTo pos (starEach (e :: es) X.env)) (backToKw pos (keywordEach [] X.env))) := by rfl) :
    PE X (.Call (.Attribute o m apos) (e :: es) [] pos) (tX X.K W ow (lendM cls mn i fm am)) := by
  obtain ⟨f, fd, ps, h1, h2, h3, h4, h5⟩ := C.ex
  subst hm
  exact PE.of (pe_meth (E := fun c d H => ∀ σ, W c d σ H) ho h1 h2 h4 (T.hr.mono hk) h3 .nil (L2N.passes_call T.tk fun c d σ H h => h σ) ha hst hpl ht) fun σ H Q h => lendM_of rfl rfl h5 hi hW h
theorem x_lendM0 {pl : Sem Bool} {m : Str} (hm : m = Str.ofString mn) (T : Ctx X W j) (C : MethL X.prog X.w X.K X.mg X.base k cls mn n fm) (hk : k ≤ j) (hW : ∀ c d σ σ' H, W c d σ H → W c d σ' H) (ho : PE X o (tVar i)) (hi : ow i = true)
    (ht : eval (.Call (.Attribute o m apos) [] [] pos) X.env = (do
      let ov ← eval o X.env
      standAt apos.atName
      let (f, first) ← holding [ov] (getMethod ov m pl)
      callWith pos f first (backTo pos (starEach [] X.env)) (backToKw pos (keywordEach [] X.env))) := by rfl) :
    PE X (.Call (.Attribute o m apos) [] [] pos) (tX X.K W ow (lendM cls mn i fm xaN)) := by
  obtain ⟨f, fd, ps, h1, h2, h3, h4, h5⟩ := C.ex
  subst hm
  refine PE.of (pe_meth0 (E := fun c d H => ∀ σ, W c d σ H) ho h1 h2 h4 (T.hr.mono hk) h3 .nil (L2N.passes_call T.tk fun c d σ H h => h σ) ht) fun σ H Q h => ?_
  obtain ⟨v, e1, a, dx, fs, e2, e3, e4, A, H0, O, en, R, q⟩ := lendM_of (C := ca X.K cls) rfl rfl h5 hi hW h
  exact ⟨v, e1, a, dx, fs, e2, e3, e4, q [] O H R Mv.refl (by simp [RepL])⟩
end
end Py
/-! Inner objects: appended to, stored into, made; own instances made. -/
namespace Py
variable [WI]
open PySem L2
theorem upd_none' {H : Hp} {a b : Addr} {o : HO} (e : upd H a o b = none) : H b = none := by
  unfold upd at e
  split at e
  · cases e
  · exact e
theorem fld_ok {α : Type} {c f : String} {o : D} {k : List (String × D) × D → Res α} {good : α → Prop} {bad : String → List (String × D) → Prop} (h : Out (fldD c f o >>= k) good bad) : ∃ fs d, o = .ins c fs ∧ (fs.map (·.1)).Nodup ∧ fs.lookup f = some d ∧ Out (k (fs, d)) good bad := by
  cases o with
  | ins c' fs =>
    by_cases z : c' = c ∧ (fs.map (·.1)).Nodup
    · cases hd : fs.lookup f with
      | none =>
        simp only [fldD, if_pos z, hd] at h
        exact h.elim
      | some d =>
        simp only [fldD, if_pos z, hd] at h
        obtain ⟨rfl, nd⟩ := z
        exact ⟨fs, d, rfl, nd, hd, h⟩
    · simp only [fldD, if_neg z] at h
      exact h.elim
  | _ => exact h.elim
section
variable {fr : Rm} {X : Cx} [CW X] {W : WX} {A : AS} {H0 : Base} {ow oN oB : Ow} {O : OW} {σ : L2.St} {H H' : Hp} {en : Env} {o e : Expr} {es : List Expr} {m mj : EM} {mx : XM} {am : AM} {st : Stmt} {apos cpos fpos pos : Pos} {i : Nat} {c f : String}
/-- the inner object of slot i's field f -/
theorem ER.at_ {K : Frag} (R : ER K A H0 ow O σ H en) (hi : ow i = true) {fs : List (String × D)} {d : D} (he : en[i]? = some (some (.ins c fs))) (hl : fs.lookup f = some d) (hf : inn c f = true) :
    ∃ a dx fvs b, σ[i]? = some (some (.ref a)) ∧ H a = some (.ins (ca K c) dx fvs) ∧ fvs.lookup (Str.ofString f) = some (.ref b) ∧ gh O i (ixF f) = some b ∧ OwnAt K (AO A O) H b d ∧ fs.length = fvs.length := by
  obtain ⟨a, p1, p2, dx, fvs, p3, p4⟩ := R.owns i _ he hi
  obtain ⟨v, q1, q2⟩ := p4.look hl
  rw [hf] at q2
  obtain ⟨b, g, rfl, o⟩ := q2
  exact ⟨a, dx, fvs, b, p2, p3, q1, g, o, p4.length⟩
/-- x.f.append(e) -/
theorem s_appF (F : Cls X.K (ca X.K c) ∧ NoAttr X.K (ca X.K c) (Str.ofString f)) (h : PS X st (tDrop (tBM X.K "list" rAppend (tFld X.K (tVar i) (Str.ofString f)) (tCons (tE X.K W ow m) tNil)))) (hi : ow i = true) (hf : inn c f = true) : PS X st (tS fr X.K W ow (appF i c f m)) :=
  PS.of h fun D σ H ⟨A, H0, O, en, R, q⟩ => by
    obtain ⟨l, hl, q1⟩ := var_ok q
    obtain ⟨fs, d, rfl, nd, hd, q2⟩ := fld_ok q1
    obtain ⟨a, dx, fvs, b, p2, p3, p4, p5, p6, _⟩ := R.at_ hi hl hd hf
    cases d with
    | lst ds =>
      obtain ⟨vs, e1, r1⟩ := p6
      refine ⟨.ref a, p2, a, _, dx, fvs, .ref b, rfl, p3, F.1, F.2, p4, sqL e1, A, H0, O, en, R, ((Out.bind q2).se R).good fun y q3 v H1 s1 r2 => ?_⟩
      split at q3
      · rename_i hz
        refine ⟨b, vs, v, rfl, rfl, s1 _ _ e1, by rw [← r1.length]; exact hz, ?_⟩
        have R1 := R.to s1
        have mv : Mv (AO A O) H1 (AO A O) (upd H1 b (.lst (vs ++ [v]))) := ⟨fun c hc => .inl hc, fun c u e3 hc => by
          rw [upd_ne]
          · exact e3
          · intro z
            subst z
            rcases hc with hc | hc
            · exact hc (.inr ⟨_, p5⟩)
            · rw [s1 _ _ e1] at e3
              cases e3
              exact hc⟩
        obtain ⟨R2, mv2⟩ := R1.writeI (ob := .lst (vs ++ [v])) (d1 := .lst (ds ++ [y])) hi hl hf nd (by rw [hd]; rfl) p5 ⟨_, upd_same, RepL.move mv _ _ ((RepL.move (Mv.same s1) _ _ r1).append (RepL.one r2))⟩ ⟨_, s1 _ _ e1, fun z => z, fun _ z => nomatch z⟩
        exact q3 O σ _ R2 ((Mv.same s1).trans mv2)
      · exact q3.elim
    | _ => exact q2.elim
/-! ### an inner object is made -/
theorem look_none {f : String} : ∀ {fs : List (String × D)}, fs.lookup f = none → ∀ n d, (n, d) ∈ fs → n ≠ f
  | (n0, d0) :: fs, h, n, d, hm => by
    by_cases e : f = n0
    · subst e
      simp at h
    · have e3 : (f == n0) = false := beq_eq_false_iff_ne.mpr e
      simp only [List.lookup_cons, e3] at h
      rcases List.mem_cons.mp hm with z | z
      · cases z
        exact fun w => e w.symm
      · exact look_none h n d z
theorem usd_new {fs : List (String × D)} (hl : fs.lookup f = none) (hf : inn c f = true) : usd (.ins c fs) (ixF f) = false := by
  cases h : usd (.ins c fs) (ixF f) with
  | false => rfl
  | true =>
    obtain ⟨⟨n, d⟩, hm, z⟩ := List.any_eq_true.mp (show (fs.any fun q => inn c q.1 && ixF q.1 == ixF f) = true from h)
    rw [Bool.and_eq_true] at z
    exact absurd (inn_ix z.1 hf (by simpa using z.2)) (look_none hl n d hm)
/-- slot i's object gets a further inner one -/
theorem ER.adopt {K : Frag} (R : ER K A H0 ow O σ H en) (s : Same H H') (hi : ow i = true) {d0 d : D} {b : Addr} {t : Bool} (he : en[i]? = some (some d0)) (hu : usd d0 t = false) (hn : H b = none) (h : OwnAt K (fun c => AO A O c ∨ c = b) H' b d) :
    ∃ O', ER K A H0 ow O' σ H' en ∧ Mv (AO A O) H (AO A O') H' ∧ OwnAt K (AO A O') H' b d ∧ gh O' i t = some b ∧ O' (3 * i) = O (3 * i) ∧ ∀ u, u ≠ t → gh O' i u = gh O i u := by
  let j0 := 3 * i + if t then 2 else 1
  let O' : OW := fun j => if j = j0 then some b else O j
  have hj0 : O' j0 = some b := if_pos rfl
  have hne : ∀ j, j ≠ j0 → O' j = O j := fun j hj => if_neg hj
  have sub : ∀ c, AO A O' c → AO A O c ∨ c = b := fun c hc => by
    rcases hc with hc | ⟨j, hc⟩
    · exact .inl (.inl hc)
    · by_cases hj : j = j0
      · rw [hj, hj0] at hc
        exact .inr (Option.some.inj hc).symm
      · rw [hne j hj] at hc
        exact .inl (.inr ⟨j, hc⟩)
  have mv : Mv (AO A O) H (AO A O') H' := ⟨fun c hc => (sub c hc).elim .inl fun z => by rw [z]; exact .inr hn, fun c u e1 _ => s c u e1⟩
  obtain ⟨ub, hub, _⟩ := h.obj
  have old : ∀ j c, O j = some c → c ≠ b := fun j c hc w => by
    subst w
    exact (R.fresh j c hc).2.1 hn
  have hgi : gh O' i t = some b := hj0
  have hother : ∀ u, u ≠ t → gh O' i u = gh O i u := fun u hu => hne _ (by cases u <;> cases t <;> simp [j0] at hu ⊢)
  have h3 : ∀ k, O' (3 * k) = O (3 * k) := fun k => hne _ (by cases t <;> simp [j0] <;> omega)
  refine ⟨O', ⟨R.len, fun c hc => ne_none s (R.a0 c hc), R.same.trans s, fun k d1 h1 h2 => ?_, fun k d1 h1 h2 => ?_, fun k c hc => ?_, fun k l c hk hl => ?_, fun c hc => (h3 0).trans (R.pin c hc), fun q hq => ?_⟩, mv, h.move (Mv.less fun c hc => sub c hc) rfl, hgi, h3 i, hother⟩
  · obtain ⟨v, q, r⟩ := R.vals k d1 h1 h2
    exact ⟨v, q, Rep.move mv _ _ r⟩
  · obtain ⟨a, p1, p2, p3⟩ := R.owns k d1 h1 h2
    refine ⟨a, (h3 k).trans p1, p2, ?_⟩
    by_cases hk : k = i
    · subst hk
      rw [he] at h1
      cases h1
      refine p3.use.move mv (R.kept s p1) fun u c z => ?_
      obtain ⟨z1, z2⟩ := useG_some z
      exact ⟨(hother u fun w => by rw [w, hu] at z1; cases z1).trans z2, R.kept s z2⟩
    · refine p3.move mv (R.kept s p1) fun u c z => ⟨(hne _ ?_).trans z, R.kept s z⟩
      intro w
      have w2 := third k u
      rw [w, third] at w2
      exact hk w2.symm
  · by_cases hj : k = j0
    · rw [hj, hj0] at hc
      cases hc
      refine ⟨?_, by rw [hub]; exact (fun z => nomatch z), fun z => R.a0 b z hn⟩
      cases z : H0.hp b with
      | none => rfl
      | some u => rw [R.same b u z] at hn; cases hn
    · rw [hne k hj] at hc
      exact ⟨(R.fresh k c hc).1, ne_none s (R.fresh k c hc).2.1, (R.fresh k c hc).2.2⟩
  · by_cases h1 : k = j0
    · by_cases h2 : l = j0
      · rw [h1, h2]
      · rw [h1, hj0] at hk
        rw [hne l h2] at hl
        exact absurd (Option.some.inj hk).symm (old l c hl)
    · by_cases h2 : l = j0
      · rw [h2, hj0] at hl
        rw [hne k h1] at hk
        exact absurd (Option.some.inj hl).symm (old k c hk)
      · rw [hne k h1] at hk
        rw [hne l h2] at hl
        exact R.inj k l c hk hl
  · obtain ⟨z1, z2, z3, fvs, z4, z5⟩ := R.exq q hq
    exact ⟨z1, z2, z3, fvs, s _ _ z4, RepF.move mv _ _ z5⟩
/-- self.f = a new list or dict -/
theorem s_setFN {cs : List String} (F : ∀ c ∈ cs, Cls X.K (ca X.K c) ∧ NoAttr X.K (ca X.K c) (Str.ofString f)) (h : PS X st (sFld X.K (tVar i) (tF X.K W ow m) (Str.ofString f))) (hi : ow i = true) (hn : (cs.all fun c => inn c f) = true := by decide) : PS X st (tS fr X.K W ow (setFN i cs f m)) :=
  PS.of h fun D σ H ⟨A, H0, O, en, R, q⟩ => by
    obtain ⟨l, hl, q1⟩ := var_ok q
    cases l with
    | ins c fs =>
      simp only at q1
      split at q1
      · rename_i hz
        obtain ⟨hz1, hz2, hz3⟩ := hz
        have hlk := Option.isNone_iff_eq_none.mp hz3
        have hf : inn c f = true := List.all_eq_true.mp hn c (by simpa using hz1)
        obtain ⟨f1, f2⟩ := F c (by simpa using hz1)
        refine ⟨A, H0, O, en, R, ((Out.bind q1).se R).good fun d q2 b H1 n s1 r2 => ?_⟩
        obtain ⟨O', R1, mv1, o1, g1, g2, g3⟩ := R.adopt (t := ixF f) s1 hi hl (usd_new hlk hf) n r2
        obtain ⟨a, p1, p2, dx, fvs, e1, r1⟩ := R1.owns i _ hl hi
        refine ⟨.ref a, p2, a, _, dx, fvs, rfl, e1, f1, f2, by rw [← r1.length]; exact hz2, ?_⟩
        have mv := own_mv R1 p1 (o := .ins (ca X.K c) dx (L2.putF (Str.ofString f) (.ref b) fvs)) e1 fun z => z
        have R2 := R1.write (o := .ins (ca X.K c) dx (L2.putF (Str.ofString f) (.ref b) fvs)) (d' := .ins c (putF f d fs)) hi hl p1 ⟨dx, _, upd_same, (RepI.put (by rw [hf]; exact ⟨b, g1, rfl, o1⟩) r1).move mv fun t b z => ⟨z, upd_ne fun w => by
          subst w
          have := R1.inj _ _ b p1 z
          cases t <;> simp at this⟩⟩
        exact q2 O' σ _ R2 (mv1.trans mv)
      · exact q1.elim
    | _ => exact q1.elim
/-- x.f = m, m changes x -/
theorem s_setFX {cs : List String} (F : ∀ c ∈ cs, Cls X.K (ca X.K c) ∧ NoAttr X.K (ca X.K c) (Str.ofString f)) (h : PS X st (sFld X.K (tVar i) (tX X.K W ow mx) (Str.ofString f))) (hi : ow i = true) (hn : (cs.all fun c => !inn c f) = true := by decide) : PS X st (tS fr X.K W ow (setFX i cs f mx)) :=
  PS.of h fun D σ H ⟨A, H0, O, en, R, q⟩ => ⟨A, H0, O, en, R, (Out.bind q).good fun p q1 v O1 H1 R1 m1 r2 => by
    obtain ⟨l, hl, q2⟩ := var_ok q1
    obtain ⟨a, p1, p2, p3⟩ := R1.owns i l hl hi
    cases l with
    | ins c fs =>
      obtain ⟨dx, fvs, e1, r1⟩ := p3
      simp only at q2
      split at q2
      · rename_i hz
        obtain ⟨f1, f2⟩ := F c (by simpa using hz.1)
        have hni : inn c f = false := by simpa using List.all_eq_true.mp hn c (by simpa using hz.1)
        refine ⟨.ref a, p2, a, _, dx, fvs, rfl, e1, f1, f2, by rw [← r1.length]; exact hz.2, ?_⟩
        have mv := own_mv R1 p1 (o := .ins (ca X.K c) dx (L2.putF (Str.ofString f) v fvs)) e1 fun z => z
        have R2 := R1.write (o := .ins (ca X.K c) dx (L2.putF (Str.ofString f) v fvs)) (d' := .ins c (putF f p.1 fs)) hi hl p1 ⟨dx, _, upd_same, (RepI.put (by rw [hni]; exact r2) r1).move mv fun t b z => ⟨z, upd_ne fun w => by
          subst w
          have := R1.inj _ _ b p1 z
          cases t <;> simp at this⟩⟩
        exact q2 O1 σ _ R2 (m1.trans mv)
      · exact q2.elim
    | _ => exact q2.elim⟩
/-! ### own instances are made -/
/-- a new own instance -/
def tN (K : Frag) (W : WX) (ow : Ow) (m : EM) : TE := fun σ H Q => ∃ A H0 O e, ER K A H0 ow O σ H e ∧
  Out (m e) (fun d => ∀ a G H', H a = none → Inn (AO A O) (fun b => H b = none) H' a G → Same H H' → OwnG K (gA (AO A O) a G) G H' a d → Q (.ref a) H') (badE K W A O σ H)
end
/-- an __init__ that makes m of the arguments behind self, with inner objects -/
def spIN (K : Frag) (p : Nat) (cls : String) (m : List D → Res D) : Sp := fun vs H Q E => ∃ A x dx H1 ds ws, vs = .ref x :: ws ∧ H = upd (upd H1 dx (.own x)) x (.ins (ca K cls) dx []) ∧ H1 x = none ∧ H1 dx = none ∧ dx ≠ x ∧ RepL K A H1 ds ws ∧ ds.length + 1 = p ∧ (∀ a, A a → H1 a ≠ none) ∧
  Out (m ds) (fun d => ∀ H' G, Same H1 H' → Inn A (fun b => H1 b = none) H' x G → OwnG K (gA A x G) G H' x d → Q .non H') (fun c fs => ∀ da H' fvs, Same H1 H' → H' da = some (.xd fvs) → RepF K A H' fs fvs → E (.ref (ca K c)) (some da) H')
section
variable {P : Program} {w : World} [HW w] {K : Frag} {mg : Str → Option Value} {base : Heap} {name qual : Str} {params : Arguments} {body : List Stmt} {scope : Scope} {dvs : List V} {kws : List (Str × V)} {f : Addr} {fd : FuncData} {N ps : List Str} {k : Nat} {ow oN oB : Ow} {m : SM}
/-- an __init__ that makes an own instance with inner objects -/
theorem init_okN {cls : String} (F : FunD K name qual params body scope dvs kws f fd) (S : FnScope N ps scope) (hox : ow.x = none) (h0 : ow 0 = true) (hp0 : 0 < ps.length) (hp : ∀ i, 0 < i → i < ps.length → ow i = false)
    (hb : ∀ (cdv : Value) (A : Around) (outer : List PySem.Env) (s : Shared) (H : Hp) (E : XK), Ctx (cxOf (L2N.CX P w) P w K mg base N qual scope f cdv A outer s H E) (WD E) k →
      PSs (cxOf (L2N.CX P w) P w K mg base N qual scope f cdv A outer s H E) body (tS .val K (WD E) ow m)) :
    FnOk P w K mg base (L2N.CX P w) (k + 1) f fd ps (spIN K ps.length cls (made ps.length N.length cls m)) := by
  refine F.ok S (fun vs H Q E ⟨A, x, dx, H1, ds, ws, h1, _, _, _, _, r, h, _⟩ => by rw [h1, List.length_cons, ← r.length]; exact h) (fun cdv A outer s H vs Q E hr h => ?_)
  obtain ⟨AV, x, dx, H1, ds, ws, rfl, hH, hx, hdx, hne, r, hl, ha, q⟩ := h
  have sd : Same H1 (upd H1 dx (.own x)) := fun b o e => by
    rw [upd_ne (ne_of_none e hdx)]
    exact e
  have hx2 : upd H1 dx (.own x) x = none := by
    rw [upd_ne fun z => hne z.symm]
    exact hx
  have s2 : Same (upd H1 dx (.own x)) H := by
    rw [hH]
    exact new_same hx2
  have s1 : Same H1 H := sd.trans s2
  refine ⟨tS .val K (WD E) ow m, hb cdv A outer s H E ⟨rfl, L2N.takes_of rfl rfl rfl rfl, passes_of rfl, hr, S.nd⟩, AV, ⟨upd H1 dx (.own x), some x⟩, fun i => if i = 0 then some x else none, (some (.ins cls []) :: ds.map some) ++ List.replicate (N.length - ps.length) none, ?_, ?_⟩
  · have hlv := r.length
    have hN : ps.length ≤ N.length := by
      have := S.pre
      have h2 := congrArg List.length this
      rw [List.length_take] at h2
      omega
    have nx : ∀ i a, (if i = 0 then some x else none) = some a → i = 0 ∧ a = x := fun i a h => by
      by_cases hi : i = 0
      · rw [if_pos hi] at h
        cases h
        exact ⟨hi, rfl⟩
      · rw [if_neg hi] at h
        cases h
    have mv : Mv AV H1 (AO AV fun i => if i = 0 then some x else none) H := ⟨fun b hb => by
      rcases hb with hb | ⟨i, hb⟩
      · exact .inl hb
      · rw [(nx i b hb).2]
        exact .inr hx, fun b o e _ => s1 b o e⟩
    refine ⟨?_, fun b hb => ne_none s1 (ha b hb), s2, fun i d h1 h2 => ?_, fun i d h1 h2 => ?_, fun i a h => ?_, fun i j a h h' => (nx i a h).1.trans (nx j a h').1.symm, fun a h => ?_, XFact.none hox⟩
    · unfold L2.start
      simp only [List.length_append, List.length_map, List.length_replicate, List.length_cons]
      omega
    · cases i with
      | zero =>
        rw [h0] at h2
        cases h2
      | succ i =>
        by_cases hi : i < ds.length
        · rw [List.getElem?_append_left (by simpa using hi), List.getElem?_cons_succ, List.getElem?_map, List.getElem?_eq_getElem hi] at h1
          simp only [Option.map_some, Option.some.injEq] at h1
          subst h1
          obtain ⟨v, hv, rv⟩ := r.get (List.getElem?_eq_getElem hi)
          exact ⟨v, start_get (by simpa using hv), Rep.move mv _ _ rv⟩
        · rw [List.getElem?_append_right (by simpa using hi)] at h1
          rw [List.getElem?_replicate] at h1
          split at h1 <;> cases h1
    · cases i with
      | zero =>
        simp only [List.cons_append, List.getElem?_cons_zero, Option.some.injEq] at h1
        subst h1
        refine ⟨x, rfl, start_get rfl, dx, [], ?_, rfl⟩
        rw [hH]
        exact upd_same
      | succ i =>
        by_cases hi : i < ds.length
        · rw [hp (i + 1) (by omega) (by omega)] at h2
          cases h2
        · rw [List.getElem?_append_right (by simpa using hi)] at h1
          rw [List.getElem?_replicate] at h1
          split at h1 <;> cases h1
    · obtain ⟨_, rfl⟩ := nx i a h
      refine ⟨hx2, ?_, fun z => ha a z hx⟩
      rw [hH, upd_same]
      exact fun z => nomatch z
    · cases h
      rfl
  · unfold made at q
    rw [if_pos hl] at q
    refine (Out.bind q).imp (fun fl _ q => ?_) fun c fs q => ?_
    · cases fl with
      | next e' =>
        refine fun O' σ' H' R' _ => ?_
        cases e' with
        | nil => exact q.elim
        | cons d0 r0 =>
          cases d0 with
          | none => exact q.elim
          | some d1 =>
            cases d1 with
            | ins c fs =>
              have q2 : ∀ H' G, Same H1 H' → Inn AV (fun b => H1 b = none) H' x G → OwnG K (gA AV x G) G H' x (.ins c fs) → Q .non H' := q
              obtain ⟨G, n, _, g⟩ := R'.back (a := x) rfl (d := .non) (v := .non) (by simp [Rep]) (l := .ins c fs) rfl h0
              exact q2 H' G (sd.trans R'.same) ⟨fun t b z => ⟨upd_none' (n.new t b z).1, (n.new t b z).2⟩, n.inj⟩ g
            | _ => exact q.elim
      | ret d => exact q.elim
      | brk e' => exact q.elim
      | cnt e' => exact q.elim
    · exact fun σ' da H' fvs s' q' r' => q da H' fvs (sd.trans s') q' r'
end
/-- C(..) makes an own instance -/
def MakeN (P : Program) (w : World) (K : Frag) (mg : Str → Option Value) (base : Heap) (k : Nat) (cls : String) (n : Nat) (fm : List D → Res D) : Prop := ∃ f fd ps, mg (Str.ofString cls) = some (.ref (ca K cls)) ∧ Mk K (ca K cls) f ∧ Binds K fd ps [] ∧ FnOk P w K mg base (L2N.CX P w) k f fd ps (spIN K n cls fm) ∧ ∀ ds, ds.length + 1 ≠ n → fm ds = .stuck
section
variable {X : Cx} [CW X] {W : WX} {A : AS} {H0 : Base} {ow oN oB : Ow} {O : OW} {σ : L2.St} {H H' : Hp} {en : Env} {e : Expr} {es : List Expr} {am : AM} {m : EM} {pos p : Pos} {k j n i : Nat} {fm : List D → Res D} {cls : String} {st : Stmt} {fr : Rm}
theorem f_new (T : Ctx X W j) (C : MakeN X.prog X.w X.K X.mg X.base k cls n fm) (hk : k + 1 ≤ j) (hg : Gl X (Str.ofString cls)) (ha : PA X (e :: es) (aE X.K W ow am)) (hdb : (Str.ofString cls == ("__debug__" : Str)) = false := by decide)
    (he : starEach (e :: es) X.env = (false, eval e X.env) :: starEach es X.env := by rfl) (hpl : (backTo pos (starEach es X.env)).any (·.1) = false := by rfl) : PE X (.Call (.Name (Str.ofString cls) p) (e :: es) [] pos) (tN X.K W ow (call fm am)) := by
  obtain ⟨f, fd, ps, hm, M, hb, F, hn⟩ := C
  refine PE.of (mk_pe (E := WE W) M F (T.hr.mono hk) hg hm hb (fun σ => L2N.passAt T.tk σ) ha hdb he hpl) fun σ H Q ⟨A, H0, O, en, R, q⟩ => ?_
  refine ⟨A, H0, O, en, R, (Out.bind q).good fun ds q1 vs H1 s1 r1 y dx hy hdx hne => ?_⟩
  have old : ∀ b, H1 b = none → H b = none := fun b hb => by
    cases z : H b with
    | none => rfl
    | some u => rw [s1 b u z] at hb; cases hb
  refine ⟨AO A O, y, dx, H1, ds, vs, rfl, rfl, hy, hdx, hne, paired_rep r1, ?_, (R.to s1).there, ?_⟩
  · by_cases hl : ds.length + 1 = n
    · exact hl
    · rw [hn ds hl] at q1
      exact q1.elim
  · exact q1.imp (fun d _ k H2 G s2 n2 g2 => ⟨rfl, k _ G H2 (old _ hy) ⟨fun t b z => ⟨old _ (n2.new t b z).1, (n2.new t b z).2⟩, n2.inj⟩ (s1.trans s2) g2⟩) fun c fs z da H2 fvs s2 q2 r2 => z da H2 fvs (s1.trans s2) q2 r2
/-- a name gets an own instance -/
theorem ER.takeN {K : Frag} (R : ER K A H0 ow O σ H en) {a : Addr} {G : GW} {d : D} (s : Same H H') (hxi : ∀ q, ow.x = some q → q.i ≠ i) (hi : ow i = true) (h0 : 0 < i) (hn : H a = none) (n : Inn (AO A O) (fun b => H b = none) H' a G) (h : OwnG K (gA (AO A O) a G) G H' a d) :
    ER K A H0 ow (lentO i a G O) (σ.set i (some (.ref a))) H' (en.set i (some d)) ∧ Mv (AO A O) H (AO A (lentO i a G O)) H' := by
  have sub : ∀ b, AO A (lentO i a G O) b → gA (AO A O) a G b := fun b hb => by
    rcases hb with hb | ⟨j, hb⟩
    · exact .inl (.inl (.inl hb))
    · rcases lent_cases hb with ⟨_, hb⟩ | ⟨t, _, hb⟩ | ⟨_, hb⟩
      · exact .inl (.inr hb)
      · exact .inr ⟨t, hb⟩
      · exact .inl (.inl (.inr ⟨j, hb⟩))
  have mv : Mv (AO A O) H (AO A (lentO i a G O)) H' := ⟨fun b hb => by
    rcases sub b hb with (z | z) | ⟨t, z⟩
    · exact .inl z
    · rw [z]
      exact .inr hn
    · exact .inr (n.new t b z).1, fun b o e1 _ => s b o e1⟩
  have old : ∀ j b, O j = some b → b ≠ a := fun j b hb w => by
    subst w
    exact (R.fresh j b hb).2.1 hn
  have h0n : ∀ b, H b = none → H0.hp b = none := fun b hb => by
    cases z : H0.hp b with
    | none => rfl
    | some u => rw [R.same b u z] at hb; cases hb
  obtain ⟨u, hu, _⟩ := h.obj
  refine ⟨⟨by simp [R.len], fun b hb => ne_none s (R.a0 b hb), R.same.trans s, fun j dj h1 h2 => ?_, fun j dj h1 h2 => ?_, fun j b hb => ?_, fun j k b hj hk => ?_, fun b hb => (lent_other (by omega)).trans (R.pin b hb), fun q hq => ?_⟩, mv⟩
  · have hj : i ≠ j := fun z => by
      subst z
      rw [hi] at h2
      cases h2
    rw [List.getElem?_set_ne hj] at h1
    obtain ⟨v, q, r⟩ := R.vals j dj h1 h2
    exact ⟨v, by rw [List.getElem?_set_ne hj]; exact q, Rep.move mv _ _ r⟩
  · by_cases hj : i = j
    · subst hj
      have hl : i < en.length := by
        have := (List.getElem?_eq_some_iff.mp h1).1
        simpa using this
      rw [List.getElem?_set_self hl] at h1
      cases h1
      refine ⟨a, lent_self, List.getElem?_set_self (by rw [R.len]; exact hl), ?_⟩
      rw [lent_gh]
      exact h.move (Mv.less sub) rfl fun t b z => ⟨z, rfl⟩
    · rw [List.getElem?_set_ne hj] at h1
      obtain ⟨b, p1, p2, p3⟩ := R.owns j dj h1 h2
      exact ⟨b, (lent_other (by omega)).trans p1, by rw [List.getElem?_set_ne hj]; exact p2, p3.move mv (R.kept s p1) fun t b' z => ⟨(lent_other (by rw [third]; omega)).trans z, R.kept s z⟩⟩
  · rcases lent_cases hb with ⟨_, rfl⟩ | ⟨t, _, hb⟩ | ⟨_, hb⟩
    · exact ⟨h0n _ hn, by rw [hu]; exact (fun z => nomatch z), fun z => R.a0 _ z hn⟩
    · obtain ⟨z1, z2, z3, z4⟩ := n.new t b hb
      exact ⟨h0n _ z1, z2, fun w => z3 (.inl w)⟩
    · exact ⟨(R.fresh j b hb).1, ne_none s (R.fresh j b hb).2.1, (R.fresh j b hb).2.2⟩
  · have key : ∀ t j b, G t = some b → O j = some b → False := fun t j b z1 z2 => (n.new t b z1).2.2.1 (.inr ⟨j, z2⟩)
    rcases lent_cases hj with ⟨z1, z2⟩ | ⟨t, z1, z2⟩ | ⟨z1, z2⟩ <;> rcases lent_cases hk with ⟨y1, y2⟩ | ⟨t', y1, y2⟩ | ⟨y1, y2⟩
    · omega
    · exact absurd z2 (n.new t' b y2).2.2.2
    · exact absurd z2 (old k b y2)
    · exact absurd y2 (n.new t b z2).2.2.2
    · rw [z1, y1, n.inj t t' b z2 y2]
    · exact (key t k b z2 y2).elim
    · exact absurd y2 (old j b z2)
    · exact (key t' j b y2 z2).elim
    · exact R.inj j k b z2 y2
  · obtain ⟨z1, z2, z3, fvs, z4, z5⟩ := R.exq q hq
    have hne : i ≠ q.i := fun z => hxi q hq z.symm
    refine ⟨z1, ?_, ?_, fvs, s _ _ z4, RepF.move mv _ _ z5⟩ <;> rw [List.getElem?_set_ne hne]
    · exact z2
    · exact z3
theorem c_ownN (h : PS X st (tAsg (tN X.K W ow m) (gName i))) (hi : ow i = false) (hN : ∀ j, oN j = (j == i || ow j)) (h0 : 0 < i := by decide) (hx : XLe oN ow := by first | exact Or.inl rfl | exact XLe.refl | exact Or.inr ⟨rfl, by intro q z; cases z; intro _; rfl⟩) : PS X st (tS3 fr X.K W ow oN oB (asg (gnm i) m)) :=
  PS.of h fun D σ H ⟨A, H0, O, en, R, q⟩ => ⟨A, H0, O, en, R, ((Out.bind q).se R).good fun d q1 a G H1 n inn s1 r1 => by
    have hNi : oN i = true := by rw [hN]; simp
    have hxi : ∀ q, oN.x = some q → q.i ≠ i := fun q hq z => by
      rcases hx with hx | ⟨hx, _⟩
      · rw [hx] at hq
        cases hq
      · have z2 := (R.exq q (hx ▸ hq)).own
        rw [z, hi] at z2
        cases z2
    obtain ⟨R2, mv⟩ := (R.opens hi hN hx).takeN s1 hxi hNi h0 n inn r1
    rw [List.set_set] at R2
    exact q1 _ _ H1 R2 mv⟩
end
end Py
/-! Parallel assignments, clean inner fields, comprehensions with effects. -/
namespace Py
variable [WI]
open PySem L2
section
variable {fr : Rm} {X : Cx} [CW X] {W : WX} {A : AS} {H0 : Base} {ow oN oB : Ow} {O : OW} {a b o e : Expr} {es : List Expr} {m ma : EM} {mx : XM} {am : AM} {st : Stmt} {apos cpos fpos pos : Pos} {i j : Nat} {c f : String}
/-- any field of what is no own object -/
theorem x_attrE {cs : List String} {f : String} (F : ∀ c ∈ cs, Cls X.K (ca X.K c) ∧ NoAttr X.K (ca X.K c) (Str.ofString f)) (ha : PE X a (tE X.K W ow ma))
    (hb : attributeBase a (Str.ofString f) X.env (eval a X.env) = eval a X.env := by rfl) : PE X (.Attribute a (Str.ofString f) pos) (tE X.K W ow (un (oattr cs f) ma)) :=
  PE.of (pe_fld ha hb) fun σ H Q ⟨A, H0, O, en, R, q⟩ => ⟨A, H0, O, en, R, (Out.bind q).good fun d q1 v H1 s1 r1 => by
    cases d with
    | ins c fs =>
      simp only [oattr] at q1
      split at q1
      · rename_i hc
        obtain ⟨h1, h2⟩ := F c (by simpa using hc)
        simp only [Rep] at r1
        obtain ⟨p, dx, fvs, rfl, _, q2, r2⟩ := r1
        have lk := r2.look (f := f)
        cases hl : fs.lookup f with
        | none =>
          rw [hl] at q1
          exact q1.elim
        | some d' =>
          rw [hl] at q1 lk
          obtain ⟨v', e1, r'⟩ := lk
          exact ⟨p, _, dx, fvs, v', rfl, q2, h1, h2, e1, q1 v' H1 s1 r'⟩
      · exact q1.elim
    | _ => exact q1.elim⟩
theorem s_appF1 (F : Cls X.K (ca X.K c) ∧ NoAttr X.K (ca X.K c) (Str.ofString f)) (ho : PE X o (tVar i)) (h : PE X e (tE X.K W ow m)) (hi : ow i = true) (hf : inn c f = true)
    (hb : attributeBase o (Str.ofString f) X.env (eval o X.env) = eval o X.env := by rfl)
    (hbase : attributeBase (.Attribute o (Str.ofString f) fpos) "append" X.env (eval (.Attribute o (Str.ofString f) fpos) X.env) = eval (.Attribute o (Str.ofString f) fpos) X.env := by rfl)
    (hfew : ((backTo cpos (starEach [e] X.env)).all (fun x => !x.1) && (backToKw cpos (keywordEach [] X.env)).all (fun x => x.1.isSome)
      && decide (([e] : List Expr).length + ([] : List Keyword).length + (if ([] : List Keyword).isEmpty then 0 else 1) < 30)) = true := by rfl)
    (hline : (apos.endLine == cpos.line) = true := by rfl) (hs : starEach [e] X.env = [(false, eval e X.env)] := by rfl)
    (hsw : swapsWith (.Call (.Attribute (.Attribute o (Str.ofString f) fpos) "append" apos) [e] [] cpos) none pos.line X.env = pure false := by rfl) :
    PS X (.Expr (.Call (.Attribute (.Attribute o (Str.ofString f) fpos) "append" apos) [e] [] cpos) pos) (tS fr X.K W ow (appF i c f m)) :=
  s_appF F (ps_expr (pe_bm PySem.F.plainAttrs_list PySem.F.slot_list_append PySem.F.type_list_append mt_append (pe_fld ho hb) (pa_cons h pa_nil hs) hbase hfew hline hs (by rfl)) hsw) hi hf
theorem s_app1X (ho : PE X o (tVar i)) (h : PE X e (tX X.K W ow mx)) (hi : ow i = true)
    (hbase : attributeBase o "append" X.env (eval o X.env) = eval o X.env := by rfl)
    (hfew : ((backTo cpos (starEach [e] X.env)).all (fun x => !x.1) && (backToKw cpos (keywordEach [] X.env)).all (fun x => x.1.isSome)
      && decide (([e] : List Expr).length + ([] : List Keyword).length + (if ([] : List Keyword).isEmpty then 0 else 1) < 30)) = true := by rfl)
    (hline : (apos.endLine == cpos.line) = true := by rfl) (hs : starEach [e] X.env = [(false, eval e X.env)] := by rfl)
    (hsw : swapsWith (.Call (.Attribute o "append" apos) [e] [] cpos) none pos.line X.env = pure false := by rfl) :
    PS X (.Expr (.Call (.Attribute o "append" apos) [e] [] cpos) pos) (tS fr X.K W ow (appX i mx)) :=
  s_appX (ps_expr (pe_bm PySem.F.plainAttrs_list PySem.F.slot_list_append PySem.F.type_list_append mt_append ho (pa_cons h pa_nil hs) hbase hfew hline hs (by rfl)) hsw) hi
/-- x, y = a, b -/
theorem s_par2 {k : Nat} {x y : Str} {px py pt : Pos} {kt k2 pt2} (T : Ctx X W k) (hi : X.N[i]? = some x) (hj : X.N[j]? = some y) (hij : i ≠ j) (hx : X.env.scope.names.lookup x = some .local) (hy : X.env.scope.names.lookup y = some .local) (oi : ow i = false) (oj : ow j = false)
    (ha : PA X [a, b] (aE X.K W ow am)) (hw : swappedStores [.Tuple [.Name x px, .Name y py] kt pt] (.Tuple [a, b] k2 pt2) X.env = pure (some [x, y]) := by rfl)
    (hs : swapsWithSole [.Tuple [.Name x px, .Name y py] kt pt] (.Tuple [a, b] k2 pt2) pos.line X.env = pure false := by rfl) :
    PS X (.Assign [.Tuple [.Name x px, .Name y py] kt pt] (.Tuple [a, b] k2 pt2) pos) (tS fr X.K W ow (par2 i j am)) :=
  PS.of (ps_par T.calm T.nd hi hj hij hx hy ha hw hs) fun D σ H ⟨A, H0, O, en, R, q⟩ => ⟨A, H0, O, en, R, ((Out.bind q).se R).good fun ds q1 vs H1 s1 r1 => by
    have r2 := paired_rep r1
    match ds, q1 with
    | [d1, d2], q1 =>
      simp only [RepL] at r2
      obtain ⟨v, _, rfl, h1, w, _, rfl, h2, rfl⟩ := r2
      exact ⟨v, w, rfl, q1 O _ H1 (((R.to s1).set oi h1).set oj h2) (Mv.same s1)⟩
    | [], q1 => exact q1.elim
    | [_], q1 => exact q1.elim
    | _ :: _ :: _ :: _, q1 => exact q1.elim⟩
end
section
variable {P : Program} {w : World} [HW w] {K : Frag} {mg : Str → Option Value} {base : Heap} {k : Nat} {ow oN oB : Ow} {m : SM} {name qual : Str} {params : Arguments} {body : List Stmt} {scope : Scope} {f : Addr} {N ps : List Str} {p n : Nat}
theorem cls_okN {cls : String} (F : ∃ fd, FunD K name qual params body scope [] [] f fd) (g : mg (Str.ofString cls) = some (.ref (ca K cls))) (M : Mk K (ca K cls) f) (S : FnScope N ps scope) (hpl : ps.length = p) (hnl : N.length = n) (h0 : ow 0 = true) (hp0 : 0 < p) (hp : ∀ i, i < p → 0 < i → ow i = false)
    (hbind : ∀ (kV doc pm : Value) (an : Option Addr) (cdv ct : Value) (us : List Value), us.length = ps.length → bindArgs (PySem.W.fnOf name qual params body scope .none kV doc pm an cdv ct) ⟨us, []⟩ = pure (ps.zip us))
    (hb : ∀ (cdv : Value) (A : Around) (outer : List PySem.Env) (s : Shared) (H : Hp) (E : XK), Ctx (cxOf (L2N.CX P w) P w K mg base N qual scope f cdv A outer s H E) (WD E) k →
      PSs (cxOf (L2N.CX P w) P w K mg base N qual scope f cdv A outer s H E) body (tS .val K (WD E) ow m)) (hx : ow.x = none := by rfl) : MakeN P w K mg base (k + 1) cls p (made p n cls m) := by
  obtain ⟨fd, F⟩ := F
  subst hpl hnl
  exact ⟨f, fd, ps, g, M, FunD.bindsN F hbind, init_okN F S hx h0 hp0 (fun i a b => hp i b a) hb, ar_made⟩
end
end Py
namespace Py
def b_as_tuple : SM :=
  (seq (ite (tst (un (oisi CS [.lst, .tup]) (var 0))) (ret (un btuple (var 0))) skip)
  (ret (cst .non)))
def m_as_tuple : List D → Res D := fn 1 1 b_as_tuple
def b_is_integer : SM :=
  (ret (andE (un (oisi CS [.int]) (var 0)) (un onb (un (oisi CS [.bl]) (var 0)))))
def m_is_integer : List D → Res D := fn 1 1 b_is_integer
def b_is_below : SM :=
  (ret (andE (call m_is_integer (argC (var 0) argN)) (Py.chain ole olt (cst (.int 0)) (var 0) (var 1))))
def m_is_below : List D → Res D := fn 2 2 b_is_below
def b_are_values : SM :=
  (ret (un ball (lcE (iseq (var 0)) [2] (gnm 2) yes (call m_is_below (argC (var 2) (argC (var 1) argN))))))
def m_are_values : List D → Res D := fn 2 3 b_are_values
def b_is_count_deed : SM :=
  (seq (ite (tst (bin Py.one (un blen (var 0)) (cst (.int 4)))) (ret (cst (.bl false))) skip)
  (seq (asg (gtup [(gnm 2), (gnm 3), (gnm 4)]) (slc (var 0) (some (cst (.int 1))) none))
  (seq (ite (orT (notT (tst (call m_is_integer (argC (var 2) argN)))) (orT (tst (bin onotin (var 2) (tupE (argC (cst (.int 2)) (argC (cst (.int 3)) (argC (cst (.int 5)) argN)))))) (notT (tst (call m_is_below (argC (var 3) (argC (var 2) argN))))))) (ret (cst (.bl false))) skip)
  (ret (andE (un (oisi CS [.tup]) (var 4)) (andE (Py.chain ole ole (cst (.int 1)) (un blen (var 4)) (cst (.int 4))) (call m_are_values (argC (var 4) (argC (var 1) argN)))))))))
def m_is_count_deed : List D → Res D := fn 2 5 b_is_count_deed
def b_is_deed : SM :=
  (seq (ite (orT (notT (tst (un (oisi CS [.tup]) (var 0)))) (orT (notT (tst (var 0))) (notT (tst (un (oisi CS [.str]) (bin oidx (var 0) (cst (.int 0)))))))) (ret (cst (.bl false))) skip)
  (seq (ite (tst (bin oeq (bin oidx (var 0) (cst (.int 0))) (cst (.str "count")))) (ret (call m_is_count_deed (argC (var 0) (argC (var 1) argN)))) skip)
  (seq (ite (orT (tst (un (onothas tab_SIZES) (bin oidx (var 0) (cst (.int 0))))) (tst (bin Py.one (un blen (var 0)) (bin oadd (un (olook tab_SIZES) (bin oidx (var 0) (cst (.int 0)))) (cst (.int 1)))))) (ret (cst (.bl false))) skip)
  (ret (call m_are_values (argC (slc (var 0) (some (cst (.int 1))) none) (argC (var 1) argN)))))))
def m_is_deed : List D → Res D := fn 2 2 b_is_deed
def b_is_inputs : SM :=
  (ret (andE (call m_is_integer (argC (var 0) argN)) (Py.chain ole ole (cst (.int 1)) (var 0) (cst (.int 3)))))
def m_is_inputs : List D → Res D := fn 1 1 b_is_inputs
def b_Row_init : SM :=
  (seq (ite (notT (tst (call m_is_inputs (argC (var 1) argN)))) (rais "InvalidRow" ["part", "place"] (argC (cst (.str "inputs")) (argC (cst (.int 0)) argN))) skip)
  (seq (asg (gnm 4) (call m_as_tuple (argC (var 2) argN)))
  (seq (ite (tst (un oisN (var 4))) (rais "InvalidRow" ["part", "place"] (argC (cst (.str "deeds")) (argC (cst (.int 0)) argN))) skip)
  (seq (for_ (ienum (var 4)) (gtup [(gnm 5), (gnm 6)]) (ite (notT (tst (call m_is_deed (argC (var 6) (argC (bin oadd (var 1) (var 5)) argN))))) (rais "InvalidRow" ["part", "place"] (argC (cst (.str "deeds")) (argC (var 5) argN))) skip))
  (seq (ite (notT (tst (call m_is_below (argC (var 3) (argC (bin oadd (var 1) (un blen (var 4))) argN))))) (rais "InvalidRow" ["part", "place"] (argC (cst (.str "out")) (argC (cst (.int 0)) argN))) skip)
  (seq (setF 0 ["Row"] "inputs" (var 1))
  (seq (setF 0 ["Row"] "deeds" (var 4))
  (setF 0 ["Row"] "out" (var 3)))))))))
def m_Row : List D → Res D := made 4 7 "Row" b_Row_init
def b__law_pick : SM :=
  (seq (ite (tst (bin ogt (bin oidx (var 0) (cst (.int 2))) (cst (.int 1)))) (seq (asg (gnm 2) (bin omod (un bint (bin oidx (var 0) (cst (.int 2)))) (var 1)))
  (seq (setL 0 (cst (.int 2)) (bin ofdiv (bin oidx (var 0) (cst (.int 2))) (var 1)))
  (retB (var 2)))) skip)
  (seq (asg (gnm 3) (cst (.int 0)))
  (seq (ite (tst (bin olt (bin oidx (var 0) (cst (.int 1))) (un blenC (bin oidx (var 0) (cst (.int 0)))))) (seq (asg (gnm 3) (bin oidxC (bin oidx (var 0) (cst (.int 0))) (bin oidx (var 0) (cst (.int 1)))))
  (setL 0 (cst (.int 1)) (bin oadd (bin oidx (var 0) (cst (.int 1))) (cst (.int 1))))) skip)
  (seq (ite (tst (bin ogt (var 3) (bin oadd (bin opow (cst (.int 10)) (cst (.int 18))) (cst (.int 1))))) (seq (asg (gnm 3) (bin osub (var 3) (bin opow (cst (.int 10)) (cst (.int 18)))))
  (seq (setL 0 (cst (.int 2)) (bin ofdiv (var 3) (var 1)))
  (retB (bin omod (un bint (var 3)) (var 1))))) skip)
  (seq (setL 0 (cst (.int 3)) (bin omod (un bint (bin oadd (bin oadd (bin omul (bin oidx (var 0) (cst (.int 3))) (cst (.int 48271))) (bin omul (var 3) (cst (.int 69621)))) (cst (.int 11)))) (cst (.int 2147483647))))
  (retB (bin omod (bin ofdiv (bin omod (un bint (bin oadd (bin omul (bin oidx (var 0) (cst (.int 3))) (bin oidx (var 0) (cst (.int 3)))) (bin omul (bin oidx (var 0) (cst (.int 3))) (cst (.int 7919))))) (cst (.int 998244353))) (cst (.int 7))) (var 1))))))))
abbrev m_law_pick : List D → Res D := pickF false
def b__law_deed : SM :=
  (seq (asg (gnm 2) (tupE (argC (cst (.str "add")) (argC (cst (.str "sub")) (argC (cst (.str "minus")) (argC (cst (.str "shift")) (argC (cst (.str "count")) (argC (cst (.str "and")) (argC (cst (.str "or")) (argC (cst (.str "xor")) (argC (cst (.str "not")) (argC (cst (.str "zero")) (argC (cst (.str "ones")) argN)))))))))))))
  (seq (asg (gnm 3) (bin oidx (var 2) (call m_law_pick (argC (var 0) (argC (cst (.int 11)) argN)))))
  (seq (ite (tst (bin oin (var 3) (tupE (argC (cst (.str "zero")) (argC (cst (.str "ones")) argN))))) (ret (tupE (argC (var 3) argN))) skip)
  (seq (asg (gnm 4) (call m_law_pick (argC (var 0) (argC (var 1) argN))))
  (seq (ite (tst (bin oin (var 3) (tupE (argC (cst (.str "not")) (argC (cst (.str "shift")) (argC (cst (.str "minus")) argN)))))) (ret (tupE (argC (var 3) (argC (var 4) argN)))) skip)
  (seq (ite (tst (bin oeq (var 3) (cst (.str "count")))) (seq (asg (gnm 5) (bin oidx (tupE (argC (cst (.int 2)) (argC (cst (.int 3)) (argC (cst (.int 5)) argN)))) (call m_law_pick (argC (var 0) (argC (cst (.int 3)) argN)))))
  (seq (asg (gnm 6) (call m_law_pick (argC (var 0) (argC (var 5) argN))))
  (seq (asg (gnm 7) (lstE (argC (var 4) argN)))
  (seq (for_ (irng1 (call m_law_pick (argC (var 0) (argC (cst (.int 4)) argN)))) (gnm 8) (app 7 (call m_law_pick (argC (var 0) (argC (var 1) argN)))))
  (ret (tupE (argC (var 3) (argC (var 5) (argC (var 6) (argC (un btuple (var 7)) argN)))))))))) skip)
  (ret (tupE (argC (var 3) (argC (var 4) (argC (call m_law_pick (argC (var 0) (argC (var 1) argN))) argN)))))))))))
def m_law_deed : List D → Res D := fn 2 9 b__law_deed
def b__law_weight : SM :=
  (seq (ite (tst (bin oeq (bin oidx (var 0) (cst (.int 0))) (cst (.str "count")))) (ret (bin oidx (var 0) (cst (.int 1)))) skip)
  (seq (ite (tst (bin oin (bin oidx (var 0) (cst (.int 0))) (tupE (argC (cst (.str "shift")) (argC (cst (.str "minus")) (argC (cst (.str "add")) (argC (cst (.str "sub")) argN))))))) (ret (cst (.int 2))) skip)
  (ret (cst (.int 1)))))
def m_law_weight : List D → Res D := fn 1 1 b__law_weight
def b__law_deeds : SM :=
  (seq (asg (gnm 4) (lstE argN))
  (seq (asg (gnm 5) (dic0 true))
  (seq (for_ (irng1 (var 2)) (gnm 6) (seq (asg (gnm 7) (call m_law_deed (argC (var 0) (argC (bin oadd (var 1) (var 6)) argN))))
  (seq (ite (andT (tst (bin ogt (var 6) (cst (.int 12)))) (tst (bin ogt (call m_law_pick (argC (var 0) (argC (cst (.int 4)) argN))) (cst (.int 0))))) (asg (gnm 7) (bin oidx (var 4) (call m_law_pick (argC (var 0) (argC (var 6) argN))))) skip)
  (seq (ite (tst (bin onotin (var 7) (var 5))) (ite (tst (bin ogt (call m_law_weight (argC (var 7) argN)) (var 3))) (asg (gnm 7) (tupE (argC (cst (.str "xor")) (argC (call m_law_pick (argC (var 0) (argC (bin oadd (var 1) (var 6)) argN))) (argC (bin osub (bin oadd (var 1) (var 6)) (cst (.int 1))) argN))))) (asg (gnm 3) (bin ofdiv (var 3) (call m_law_weight (argC (var 7) argN))))) skip)
  (seq (setL 5 (var 7) (cst (.bl true)))
  (app 4 (var 7)))))))
  (ret (var 4)))))
def m_law_deeds : List D → Res D := fn 4 8 b__law_deeds
def b__law_number : SM :=
  (ret (andE (un (oisi CS [.int]) (var 0)) (andE (un onb (un (oisi CS [.bl]) (var 0))) (Py.chain ole olt (cst (.int 0)) (var 0) (var 1)))))
def m_law_number : List D → Res D := fn 2 2 b__law_number
def b__law_plain_deed : SM :=
  (seq (ite (orT (notT (tst (un (oisi CS [.tup]) (var 0)))) (orT (tst (bin olt (un blen (var 0)) (cst (.int 2)))) (notT (tst (un (oisi CS [.str]) (bin oidx (var 0) (cst (.int 0)))))))) (ret (cst (.bl false))) skip)
  (seq (asg (gnm 2) (slc (var 0) (some (cst (.int 1))) none))
  (seq (ite (tst (bin oeq (bin oidx (var 0) (cst (.int 0))) (cst (.str "count")))) (seq (ite (orT (tst (bin Py.one (un blen (var 0)) (cst (.int 4)))) (orT (notT (tst (call m_law_number (argC (bin oidx (var 0) (cst (.int 1))) (argC (cst (.int 6)) argN))))) (tst (bin onotin (bin oidx (var 0) (cst (.int 1))) (tupE (argC (cst (.int 2)) (argC (cst (.int 3)) (argC (cst (.int 5)) argN)))))))) (ret (cst (.bl false))) skip)
  (seq (ite (orT (notT (tst (call m_law_number (argC (bin oidx (var 0) (cst (.int 2))) (argC (bin oidx (var 0) (cst (.int 1))) argN))))) (orT (notT (tst (un (oisi CS [.tup]) (bin oidx (var 0) (cst (.int 3)))))) (tst (bin onotin (un blen (bin oidx (var 0) (cst (.int 3)))) (tupE (argC (cst (.int 1)) (argC (cst (.int 2)) (argC (cst (.int 3)) (argC (cst (.int 4)) argN))))))))) (ret (cst (.bl false))) skip)
  (asg (gnm 2) (bin oidx (var 0) (cst (.int 3)))))) (ite (tst (bin oeq (bin oidx (var 0) (cst (.int 0))) (cst (.str "not")))) (ite (tst (bin Py.one (un blen (var 0)) (cst (.int 2)))) (ret (cst (.bl false))) skip) (ite (orT (tst (bin onotin (bin oidx (var 0) (cst (.int 0))) (tupE (argC (cst (.str "and")) (argC (cst (.str "add")) argN))))) (tst (bin Py.one (un blen (var 0)) (cst (.int 3))))) (ret (cst (.bl false))) skip)))
  (seq (for_ (iseq (var 2)) (gnm 3) (ite (notT (tst (call m_law_number (argC (var 3) (argC (var 1) argN))))) (ret (cst (.bl false))) skip))
  (ret (cst (.bl true)))))))
def m_law_plain_deed : List D → Res D := fn 2 4 b__law_plain_deed
def b__law_plain : SM :=
  (seq (ite (orT (notT (tst (un (oisi CS [(.cls "Row")]) (var 0)))) (orT (notT (tst (call m_law_number (argC (un (oattr ["Row"] "inputs") (var 0)) (argC (cst (.int 4)) argN))))) (tst (bin Py.one (un (oattr ["Row"] "inputs") (var 0)) (var 1))))) (ret (cst (.bl false))) skip)
  (seq (ite (orT (notT (tst (un (oisi CS [.tup]) (un (oattr ["Row"] "deeds") (var 0))))) (tst (bin ogt (un blen (un (oattr ["Row"] "deeds") (var 0))) (bin oadd (bin omul (cst (.int 7)) (un blen (var 2))) (cst (.int 3)))))) (ret (cst (.bl false))) skip)
  (seq (for_ (irng1 (un blen (un (oattr ["Row"] "deeds") (var 0)))) (gnm 3) (ite (notT (tst (call m_law_plain_deed (argC (bin oidx (un (oattr ["Row"] "deeds") (var 0)) (var 3)) (argC (bin oadd (var 1) (var 3)) argN))))) (ret (cst (.bl false))) skip))
  (seq (ite (notT (tst (call m_law_number (argC (un (oattr ["Row"] "out") (var 0)) (argC (bin oadd (var 1) (un blen (un (oattr ["Row"] "deeds") (var 0)))) argN))))) (ret (cst (.bl false))) skip)
  (seq (asg (gnm 4) (lcE (iseq (var 2)) [6] (gnm 6) (tst (bin oin (bin oidx (var 6) (cst (.int 0))) (tupE (argC (cst (.str "shift")) (argC (cst (.str "minus")) (argC (cst (.str "add")) (argC (cst (.str "sub")) argN))))))) (var 6)))
  (seq (asg (gnm 5) (lcE (iseq (var 2)) [6] (gnm 6) (tst (bin oeq (bin oidx (var 6) (cst (.int 0))) (cst (.str "count")))) (var 6)))
  (seq (ite (tst (bin Py.one (un blen (lcE (iseq (un (oattr ["Row"] "deeds") (var 0))) [6] (gnm 6) (tst (bin oeq (bin oidx (var 6) (cst (.int 0))) (cst (.str "add")))) (var 6))) (un blen (var 4)))) (ret (cst (.bl false))) skip)
  (ret (bin oeq (un blen (lcE (iseq (un (oattr ["Row"] "deeds") (var 0))) [6] (gnm 6) (tst (bin oeq (bin oidx (var 6) (cst (.int 0))) (cst (.str "count")))) (var 6))) (un blen (var 5)))))))))))
def m_law_plain : List D → Res D := fn 3 7 b__law_plain
def b__law_mark : SM :=
  (seq (ite (tst (bin oeq (var 0) (cst (.str "shift")))) (ret (tupE (argC (var 1) (argC (var 2) argN)))) skip)
  (seq (asg (gnm 4) (bin oadd (bin oadd (var 2) (var 3)) (var 1)))
  (seq (ite (tst (bin oeq (var 0) (cst (.str "minus")))) (ret (tupE (argC (bin oand (var 4) (cst (.int 1))) (argC (un bint (bin oge (var 4) (cst (.int 1)))) argN)))) skip)
  (seq (ite (tst (bin oeq (var 0) (cst (.str "add")))) (ret (tupE (argC (bin oand (var 4) (cst (.int 1))) (argC (un bint (bin oge (var 4) (cst (.int 2)))) argN)))) skip)
  (ret (tupE (argC (bin oand (var 4) (cst (.int 1))) (argC (un bint (bin olt (var 2) (bin oadd (var 3) (var 1)))) argN))))))))
def m_law_mark : List D → Res D := fn 4 5 b__law_mark
def b__law_step : SM :=
  (seq (asg (gnm 4) (lcE (irng1 (var 0)) [11] (gnm 11) yes (bin oand (bin oshr (var 3) (var 11)) (cst (.int 1)))))
  (seq (asg (gnm 5) (lstE argN))
  (seq (for_ (iseq (var 1)) (gnm 6) (seq (asg (gnm 7) (bin oidx (var 6) (cst (.int 0))))
  (ite (tst (bin oeq (var 7) (cst (.str "not")))) (app 4 (bin osub (cst (.int 1)) (bin oidx (var 4) (bin oidx (var 6) (cst (.int 1)))))) (ite (tst (bin oeq (var 7) (cst (.str "and")))) (app 4 (bin oand (bin oidx (var 4) (bin oidx (var 6) (cst (.int 1)))) (bin oidx (var 4) (bin oidx (var 6) (cst (.int 2)))))) (ite (tst (bin oeq (var 7) (cst (.str "or")))) (app 4 (bin oor (bin oidx (var 4) (bin oidx (var 6) (cst (.int 1)))) (bin oidx (var 4) (bin oidx (var 6) (cst (.int 2)))))) (ite (tst (bin oeq (var 7) (cst (.str "xor")))) (app 4 (bin oxor (bin oidx (var 4) (bin oidx (var 6) (cst (.int 1)))) (bin oidx (var 4) (bin oidx (var 6) (cst (.int 2)))))) (ite (tst (bin oin (var 7) (tupE (argC (cst (.str "zero")) (argC (cst (.str "ones")) argN))))) (app 4 (un bint (bin oeq (var 7) (cst (.str "ones"))))) (ite (tst (bin oeq (var 7) (cst (.str "count")))) (seq (asg (gnm 8) (bin oidx (var 2) (un blen (var 5))))
  (seq (app 4 (un bint (bin oeq (var 8) (bin oidx (var 6) (cst (.int 2))))))
  (app 5 (bin omod (un bint (bin oadd (var 8) (un bsum (lcE (iseq (bin oidx (var 6) (cst (.int 3)))) [12] (gnm 12) yes (bin oidx (var 4) (var 12)))))) (bin oidx (var 6) (cst (.int 1))))))) (seq (asg (gnm 9) (cst (.int 0)))
  (seq (ite (tst (bin ogt (un blen (var 6)) (cst (.int 2)))) (asg (gnm 9) (bin oidx (var 4) (bin oidx (var 6) (cst (.int 2))))) skip)
  (seq (asg (gtup [(gnm 10), (gnm 8)]) (call m_law_mark (argC (var 7) (argC (bin oidx (var 2) (un blen (var 5))) (argC (bin oidx (var 4) (bin oidx (var 6) (cst (.int 1)))) (argC (var 9) argN))))))
  (seq (app 4 (var 10))
  (app 5 (var 8))))))))))))))
  (ret (tupE (argC (var 4) (argC (un btuple (var 5)) argN)))))))
def m_law_step : List D → Res D := fn 4 13 b__law_step
def b__law_both : SM :=
  (seq (asg (gtup [(gnm 5), (gnm 6)]) (call m_law_step (argC (var 0) (argC (bin oidx (var 1) (cst (.int 0))) (argC (bin oidx (var 3) (cst (.int 0))) (argC (var 4) argN))))))
  (seq (asg (gtup [(gnm 7), (gnm 8)]) (call m_law_step (argC (var 0) (argC (bin oidx (var 2) (cst (.int 0))) (argC (bin oidx (var 3) (cst (.int 1))) (argC (var 4) argN))))))
  (seq (ite (tst (bin Py.one (bin oidx (var 5) (bin oidx (var 1) (cst (.int 1)))) (bin oidx (var 7) (bin oidx (var 2) (cst (.int 1)))))) (ret (cst .non)) skip)
  (ret (tupE (argC (var 6) (argC (var 8) argN)))))))
def m_law_both : List D → Res D := fn 5 9 b__law_both
def b__law_first : SM :=
  (ret (un btuple (lcE (iseq (var 0)) [1] (gnm 1) (tst (bin ogt (call m_law_weight (argC (var 1) argN)) (cst (.int 1)))) (cst (.int 0)))))
def m_law_first : List D → Res D := fn 1 2 b__law_first
def b__law_same : SM :=
  (seq (asg (gnm 4) (bin oshl (bin oadd (bin oadd (un blen (bin oidx (var 2) (cst (.int 0)))) (un blen (bin oidx (var 3) (cst (.int 0))))) (cst (.int 2))) (var 1)))
  (seq (asg (gnm 5) (bin bmin2 (cst (.int 300)) (bin bmax2 (cst (.int 12)) (bin ofdiv (cst (.int 20000)) (var 4)))))
  (seq (asg (gnm 6) (tupE (argC (call m_law_first (argC (bin oidx (var 2) (cst (.int 0))) argN)) (argC (call m_law_first (argC (bin oidx (var 3) (cst (.int 0))) argN)) argN))))
  (seq (asg (gnm 7) (lstE (argC (var 6) argN)))
  (seq (asg (gnm 8) (dic1 true (var 6) (cst (.bl true))))
  (seq (for_ (irng1 (var 5)) (gnm 9) (ite (tst (bin olt (var 9) (un blen (var 7)))) (for_ (irng1 (bin oshl (cst (.int 1)) (var 1))) (gnm 10) (seq (asg (gnm 11) (call m_law_both (argC (var 1) (argC (var 2) (argC (var 3) (argC (bin oidx (var 7) (var 9)) (argC (var 10) argN)))))))
  (seq (ite (tst (un oisN (var 11))) (ret (cst (.bl false))) skip)
  (ite (tst (bin onotin (var 11) (var 8))) (seq (setL 8 (var 11) (cst (.bl true)))
  (app 7 (var 11))) skip)))) skip))
  (seq (ite (tst (bin ole (un blen (var 7)) (var 5))) (ret (cst (.bl true))) skip)
  (seq (for_ (irng1 (bin bmin2 (cst (.int 3)) (bin ofdiv (var 5) (cst (.int 12))))) (gnm 12) (seq (asg (gnm 11) (var 6))
  (for_ (irng1 (cst (.int 40))) (gnm 9) (seq (asg (gnm 11) (call m_law_both (argC (var 1) (argC (var 2) (argC (var 3) (argC (var 11) (argC (call m_law_pick (argC (var 0) (argC (bin oshl (cst (.int 1)) (var 1)) argN))) argN)))))))
  (ite (tst (un oisN (var 11))) (ret (cst (.bl false))) skip)))))
  (ret (cst (.bl true)))))))))))
def m_law_same : List D → Res D := fn 4 13 b__law_same
def b_carry_count : SM :=
  (ret (un blen (lcE (iseq (un (oattr ["Row"] "deeds") (var 0))) [1] (gnm 1) (tst (bin oin (bin oidx (var 1) (cst (.int 0))) (cst (.tup tup_CARRIES)))) (var 1))))
def m_carry_count : List D → Res D := fn 1 2 b_carry_count
def b_PlainMaker_init : SM :=
  (seq (setF 0 ["PlainMaker"] "inputs" (var 1))
  (seq (setFN 0 ["PlainMaker"] "deeds" (lstE argN))
  (seq (setF 0 ["PlainMaker"] "nought" (cst .non))
  (setF 0 ["PlainMaker"] "full" (cst .non)))))
def m_PlainMaker : List D → Res D := made 2 2 "PlainMaker" b_PlainMaker_init
def b_PlainMaker_put : SM :=
  (seq (appF 0 "PlainMaker" "deeds" (var 1))
  (retL (upX (bin osub (bin oadd (un (oattr ["PlainMaker"] "inputs") (var 0)) (un blen (un (oattr ["PlainMaker"] "deeds") (var 0)))) (cst (.int 1))))))
def m_PlainMaker_put : List D → Res D := fnL 2 2 b_PlainMaker_put
def b_PlainMaker_both_of : SM :=
  (retL (lendM "PlainMaker" "put" 0 m_PlainMaker_put (xaC (upX (tupE (argC (cst (.str "and")) (argC (var 1) (argC (var 2) argN))))) xaN)))
def m_PlainMaker_both_of : List D → Res D := fnL 3 3 b_PlainMaker_both_of
def b_PlainMaker_opposite : SM :=
  (retL (lendM "PlainMaker" "put" 0 m_PlainMaker_put (xaC (upX (tupE (argC (cst (.str "not")) (argC (var 1) argN)))) xaN)))
def m_PlainMaker_opposite : List D → Res D := fnL 2 2 b_PlainMaker_opposite
def b_PlainMaker_sum_of : SM :=
  (retL (lendM "PlainMaker" "put" 0 m_PlainMaker_put (xaC (upX (tupE (argC (cst (.str "add")) (argC (var 1) (argC (var 2) argN))))) xaN)))
def m_PlainMaker_sum_of : List D → Res D := fnL 3 3 b_PlainMaker_sum_of
def b_PlainMaker_difference : SM :=
  (retL (lendM "PlainMaker" "opposite" 0 m_PlainMaker_opposite (xaC (lendM "PlainMaker" "sum_of" 0 m_PlainMaker_sum_of (xaC (lendM "PlainMaker" "opposite" 0 m_PlainMaker_opposite (xaC (upX (var 1)) xaN)) (xaC (upX (var 2)) xaN))) xaN)))
def m_PlainMaker_difference : List D → Res D := fnL 3 3 b_PlainMaker_difference
def b_PlainMaker_either_of : SM :=
  (retL (lendM "PlainMaker" "opposite" 0 m_PlainMaker_opposite (xaC (lendM "PlainMaker" "both_of" 0 m_PlainMaker_both_of (xaC (lendM "PlainMaker" "opposite" 0 m_PlainMaker_opposite (xaC (upX (var 1)) xaN)) (xaC (lendM "PlainMaker" "opposite" 0 m_PlainMaker_opposite (xaC (upX (var 2)) xaN)) xaN))) xaN)))
def m_PlainMaker_either_of : List D → Res D := fnL 3 3 b_PlainMaker_either_of
def b_PlainMaker_just_one : SM :=
  (retL (lendM "PlainMaker" "both_of" 0 m_PlainMaker_both_of (xaC (lendM "PlainMaker" "either_of" 0 m_PlainMaker_either_of (xaC (upX (var 1)) (xaC (upX (var 2)) xaN))) (xaC (lendM "PlainMaker" "opposite" 0 m_PlainMaker_opposite (xaC (lendM "PlainMaker" "both_of" 0 m_PlainMaker_both_of (xaC (upX (var 1)) (xaC (upX (var 2)) xaN))) xaN)) xaN))))
def m_PlainMaker_just_one : List D → Res D := fnL 3 3 b_PlainMaker_just_one
def b_PlainMaker_zero : SM :=
  (seq (ite (tst (un oisN (un (oattr ["PlainMaker"] "nought") (var 0)))) (setFX 0 ["PlainMaker"] "nought" (lendM "PlainMaker" "both_of" 0 m_PlainMaker_both_of (xaC (upX (cst (.int 0))) (xaC (lendM "PlainMaker" "opposite" 0 m_PlainMaker_opposite (xaC (upX (cst (.int 0))) xaN)) xaN)))) skip)
  (retL (upX (un (oattr ["PlainMaker"] "nought") (var 0)))))
def m_PlainMaker_zero : List D → Res D := fnL 1 1 b_PlainMaker_zero
def b_PlainMaker_ones : SM :=
  (seq (ite (tst (un oisN (un (oattr ["PlainMaker"] "full") (var 0)))) (setFX 0 ["PlainMaker"] "full" (lendM "PlainMaker" "opposite" 0 m_PlainMaker_opposite (xaC (lendM "PlainMaker" "zero" 0 m_PlainMaker_zero xaN) xaN))) skip)
  (retL (upX (un (oattr ["PlainMaker"] "full") (var 0)))))
def m_PlainMaker_ones : List D → Res D := fnL 1 1 b_PlainMaker_ones
def b_PlainMaker_made : SM :=
  (seq (ite (tst (bin oeq (var 1) (cst (.str "zero")))) (retL (lendM "PlainMaker" "zero" 0 m_PlainMaker_zero xaN)) skip)
  (seq (ite (tst (bin oeq (var 1) (cst (.str "ones")))) (retL (lendM "PlainMaker" "ones" 0 m_PlainMaker_ones xaN)) skip)
  (seq (par2 3 4 (argC (bin oidx (var 2) (cst (.int 0))) (argC (bin oidx (var 2) (un oneg (cst (.int 1)))) argN)))
  (seq (ite (tst (bin oeq (var 1) (cst (.str "not")))) (retL (lendM "PlainMaker" "opposite" 0 m_PlainMaker_opposite (xaC (upX (var 3)) xaN))) skip)
  (seq (ite (tst (bin oeq (var 1) (cst (.str "and")))) (retL (lendM "PlainMaker" "both_of" 0 m_PlainMaker_both_of (xaC (upX (var 3)) (xaC (upX (var 4)) xaN)))) skip)
  (seq (ite (tst (bin oeq (var 1) (cst (.str "or")))) (retL (lendM "PlainMaker" "either_of" 0 m_PlainMaker_either_of (xaC (upX (var 3)) (xaC (upX (var 4)) xaN)))) skip)
  (seq (ite (tst (bin oeq (var 1) (cst (.str "xor")))) (retL (lendM "PlainMaker" "just_one" 0 m_PlainMaker_just_one (xaC (upX (var 3)) (xaC (upX (var 4)) xaN)))) skip)
  (seq (ite (tst (bin oeq (var 1) (cst (.str "sub")))) (retL (lendM "PlainMaker" "difference" 0 m_PlainMaker_difference (xaC (upX (var 3)) (xaC (upX (var 4)) xaN)))) skip)
  (seq (ite (tst (bin oeq (var 1) (cst (.str "minus")))) (retL (lendM "PlainMaker" "opposite" 0 m_PlainMaker_opposite (xaC (lendM "PlainMaker" "sum_of" 0 m_PlainMaker_sum_of (xaC (upX (var 3)) (xaC (lendM "PlainMaker" "ones" 0 m_PlainMaker_ones xaN) xaN))) xaN))) skip)
  (retL (lendM "PlainMaker" "sum_of" 0 m_PlainMaker_sum_of (xaC (upX (var 3)) (xaC (upX (var 4)) xaN)))))))))))))
def m_PlainMaker_made : List D → Res D := fnL 3 5 b_PlainMaker_made
def b_plain_row : SM :=
  (seq (asg (gnm 1) (call m_PlainMaker (argC (un (oattr ["Row"] "inputs") (var 0)) argN)))
  (seq (asg (gnm 2) (lrngE (irng1 (un (oattr ["Row"] "inputs") (var 0)))))
  (seq (for_ (iseq (un (oattr ["Row"] "deeds") (var 0))) (gnm 3) (ite (tst (bin oeq (bin oidx (var 3) (cst (.int 0))) (cst (.str "count")))) (appX 2 (lendM "PlainMaker" "put" 1 m_PlainMaker_put (xaC (upX (tupE (argS (slc (var 3) none (some (cst (.int 3)))) (argC (un btuple (lcE (iseq (bin oidx (var 3) (cst (.int 3)))) [4] (gnm 4) yes (bin oidx (var 2) (var 4)))) argN)))) xaN))) (appX 2 (lendM "PlainMaker" "made" 1 m_PlainMaker_made (xaC (upX (bin oidx (var 3) (cst (.int 0)))) (xaC (upX (lcE (iseq (slc (var 3) (some (cst (.int 1))) none)) [4] (gnm 4) yes (bin oidx (var 2) (var 4)))) xaN))))))
  (ret (call m_Row (argC (un (oattr ["Row"] "inputs") (var 0)) (argC (un (oattr ["PlainMaker"] "deeds") (var 1)) (argC (bin oidx (var 2) (un (oattr ["Row"] "out") (var 0))) argN))))))))
def m_plain_row : List D → Res D := fn 1 5 b_plain_row
def b__law_ask : SM :=
  (seq (asg (gnm 1) (bin oidx (tupE (argC (cst (.int 1)) (argC (cst (.int 1)) (argC (cst (.int 2)) (argC (cst (.int 3)) (argC (cst (.int 2)) (argC (cst (.int 1)) argN))))))) (call m_law_pick (argC (var 0) (argC (cst (.int 6)) argN)))))
  (seq (asg (gnm 2) (call m_law_pick (argC (var 0) (argC (cst (.int 14)) argN))))
  (seq (ite (tst (bin oeq (call m_law_pick (argC (var 0) (argC (cst (.int 12)) argN))) (cst (.int 0)))) (asg (gnm 2) (bin oadd (cst (.int 60)) (call m_law_pick (argC (var 0) (argC (cst (.int 121)) argN))))) skip)
  (seq (asg (gnm 3) (call m_law_deeds (argC (var 0) (argC (var 1) (argC (var 2) (argC (cst (.int 48)) argN))))))
  (seq (asg (gnm 4) (bin osub (bin oadd (var 1) (var 2)) (cst (.int 1))))
  (seq (ite (tst (bin oeq (call m_law_pick (argC (var 0) (argC (cst (.int 3)) argN))) (cst (.int 0)))) (asg (gnm 4) (call m_law_pick (argC (var 0) (argC (bin oadd (var 1) (var 2)) argN)))) skip)
  (seq (asg (gnm 5) (un btuple (var 3)))
  (seq (ite (tst (bin oeq (call m_law_pick (argC (var 0) (argC (cst (.int 2)) argN))) (cst (.int 1)))) (asg (gnm 5) (un blist (var 3))) skip)
  (seq (asg (gnm 6) (call m_Row (argC (var 1) (argC (var 5) (argC (var 4) argN)))))
  (seq (asg (gnm 7) (call m_plain_row (argC (var 6) argN)))
  (seq (ite (notT (tst (call m_law_plain (argC (var 7) (argC (var 1) (argC (var 3) argN)))))) (ret (cst (.bl false))) skip)
  (seq (ite (orT (tst (bin Py.one (un (oattr ["Row"] "inputs") (var 6)) (var 1))) (orT (tst (bin Py.one (un (oattr ["Row"] "deeds") (var 6)) (un btuple (var 3)))) (orT (tst (bin Py.one (un (oattr ["Row"] "out") (var 6)) (var 4))) (tst (bin Py.one (un blist (var 5)) (var 3)))))) (ret (cst (.bl false))) skip)
  (seq (asg (gnm 8) (un blen (lcE (iseq (var 3)) [11] (gnm 11) (tst (bin oin (bin oidx (var 11) (cst (.int 0))) (tupE (argC (cst (.str "shift")) (argC (cst (.str "minus")) (argC (cst (.str "add")) (argC (cst (.str "sub")) argN))))))) (var 11))))
  (seq (asg (gnm 9) (call m_carry_count (argC (var 6) argN)))
  (seq (ite (orT (notT (tst (call m_law_number (argC (var 9) (argC (bin oadd (var 8) (cst (.int 1))) argN))))) (tst (bin Py.one (var 9) (var 8)))) (ret (cst (.bl false))) skip)
  (seq (asg (gnm 10) (call m_plain_row (argC (call m_Row (argC (var 1) (argC (un blist (var 3)) (argC (var 4) argN)))) argN)))
  (seq (ite (orT (notT (tst (un (oisi CS [(.cls "Row")]) (var 10)))) (tst (bin Py.one (un (oattr ["Row"] "inputs") (var 10)) (var 1)))) (ret (cst (.bl false))) skip)
  (seq (ite (orT (tst (bin Py.one (un (oattr ["Row"] "deeds") (var 10)) (un (oattr ["Row"] "deeds") (var 7)))) (tst (bin Py.one (un (oattr ["Row"] "out") (var 10)) (un (oattr ["Row"] "out") (var 7))))) (ret (cst (.bl false))) skip)
  (ret (call m_law_same (argC (var 0) (argC (var 1) (argC (tupE (argC (var 3) (argC (var 4) argN))) (argC (tupE (argC (un (oattr ["Row"] "deeds") (var 7)) (argC (un (oattr ["Row"] "out") (var 7)) argN))) argN))))))))))))))))))))))))
def m_law_ask : List D → Res D := fn 1 12 b__law_ask
def b_law : SM :=
  (seq (asg (gnm 1) (mkp (lstE (argC (lcE (iseq (slc (var 0) none (some (cst (.int 63))))) [2] (gnm 2) yes (un bint (var 2))) (argC (cst (.int 0)) (argC (cst (.int 0)) (argC (cst (.int 1)) argN)))))))
  (thru (ret (call m_law_ask (argC (var 1) argN)))))
def m_law : List D → Res D := fn 1 3 b_law
end Py
namespace Py
open PySem PySem.Spec PyProof.Rows L2
abbrev ow_as_tuple : Ow := owS []
abbrev ow_is_integer : Ow := owS []
abbrev ow_is_below : Ow := owS []
abbrev ow_are_values : Ow := owS []
abbrev ow_is_count_deed : Ow := owS []
abbrev ow_is_deed : Ow := owS []
abbrev ow_is_inputs : Ow := owS []
abbrev ow_Row_init : Ow := ⟨fun i => i == 0, none⟩
abbrev ow__law_pick : Ow := ⟨fun i => i == 0, none⟩
abbrev ow__law_deed : Ow := owS []
abbrev ow__law_weight : Ow := owS []
abbrev ow__law_deeds : Ow := owS []
abbrev ow__law_number : Ow := owS []
abbrev ow__law_plain_deed : Ow := owS []
abbrev ow__law_plain : Ow := owS []
abbrev ow__law_mark : Ow := owS []
abbrev ow__law_step : Ow := owS []
abbrev ow__law_both : Ow := owS []
abbrev ow__law_first : Ow := owS []
abbrev ow__law_same : Ow := owS []
abbrev ow_carry_count : Ow := owS []
abbrev ow_PlainMaker_init : Ow := ⟨fun i => i == 0, none⟩
abbrev ow_PlainMaker_put : Ow := owS [0]
abbrev ow_PlainMaker_both_of : Ow := owS [0]
abbrev ow_PlainMaker_opposite : Ow := owS [0]
abbrev ow_PlainMaker_sum_of : Ow := owS [0]
abbrev ow_PlainMaker_difference : Ow := owS [0]
abbrev ow_PlainMaker_either_of : Ow := owS [0]
abbrev ow_PlainMaker_just_one : Ow := owS [0]
abbrev ow_PlainMaker_zero : Ow := owS [0]
abbrev ow_PlainMaker_ones : Ow := owS [0]
abbrev ow_PlainMaker_made : Ow := owS [0]
abbrev ow_plain_row : Ow := owS []
abbrev ow__law_ask : Ow := owS []
abbrev ow_law : Ow := owS []
abbrev Fs (P : Program) (w : World) (K : Frag) (mg : Str → Option Value) : Prop := FactsY fa fns xfs tbs mss FILE P w K mg
section
variable [WI] {P : Program} {w : World} [HW w] {K : Frag} {mg : Str → Option Value} {base : Heap}
theorem S_InvalidRow_init : NdefX.NScope N_InvalidRow_init ["self", "part", "place"] ["__class__"] sc_InvalidRow_init := NdefX.nscope_by (by decide +kernel)
theorem er_InvalidRow (Y : Fs P w K mg) : ErrOk P w K mg base 1 "InvalidRow" ["part", "place"] :=
  err_ok (k := 0) (self := "self") (N := N_InvalidRow_init) (ps := ["self", "part", "place"]) (Y.err 0 10 (d := d_InvalidRow_init) (c := "InvalidRow") (fs := ["part", "place"])) (Y.glo 53) (Y.free 54) Y.ps rfl S_InvalidRow_init rfl rfl rfl rfl (fun _ _ _ _ _ _ _ us hl => match us, hl with | [_, _, _], _ => rfl)
    (fun _ _ _ _ _ _ _ _ => (pss_cons (ps_ost (pv 0) (pv 1)) (pss_one (ps_ost (pv 0) (pv 2)))))
    (fun a ws H1 Dn σ h0 h1 hl hn q => fld_two (Y.err 0 10 (d := d_InvalidRow_init) (c := "InvalidRow") (fs := ["part", "place"])).T ((Y.err 0 10 (d := d_InvalidRow_init) (c := "InvalidRow") (fs := ["part", "place"])).no _ (by simp)) ((Y.err 0 10 (d := d_InvalidRow_init) (c := "InvalidRow") (fs := ["part", "place"])).no _ (by simp)) h0 h1 hl hn q) (fun _ _ _ _ => rfl) (fun _ _ _ _ => rfl) (fun _ _ _ _ => rfl) (fun _ _ _ _ => rfl)
theorem S_as_tuple : FnScope N_as_tuple ["value"] sc_as_tuple := ⟨rfl, rfl, rfl, by decide +kernel, rfl, by decide +kernel, by decide +kernel⟩
theorem c_as_tuple (Y : Fs P w K mg) : CallOk P w K mg base 1 "as_tuple" d_as_tuple ["value"] 1 m_as_tuple :=
  def_ok (d := d_as_tuple) (N := N_as_tuple) (ps := ["value"]) (p := 1) (m := b_as_tuple) (k := 0) (ow := ow_as_tuple) (Y.def_ 0) (Y.glo 16) S_as_tuple rfl rfl (by decide) (fun _ _ _ _ _ _ us hl => match us, hl with | [_], _ => rfl) (fun cdv A outer s H E T => (ss_cons (s_if (t_tst (w_of (x_isiT (cs := CS) (ts := [.lst, .tup]) rfl (kit_of_b (Y.more 3)) rfl (Y.free 4) (w_of (x_var (pv 0) rfl)) (TyL.cons (t := .lst) (pe_bltn rfl (Y.free 2) hv_list rfl) (TyL.cons (t := .tup) (pe_bltn rfl (Y.free 1) hv_tuple rfl) TyL.nil rfl) rfl) (by decide))) (by intro _; rfl)) (ss_one (s_ret (x_t1 v_tuple n_tuple rfl (Y.free 1) hv_tuple (w_of (x_var (pv 0) rfl))))) ss_nil)
  (ss_one (s_ret x_non))))
theorem S_is_integer : FnScope N_is_integer ["value"] sc_is_integer := ⟨rfl, rfl, rfl, by decide +kernel, rfl, by decide +kernel, by decide +kernel⟩
theorem c_is_integer (Y : Fs P w K mg) : CallOk P w K mg base 1 "is_integer" d_is_integer ["value"] 1 m_is_integer :=
  def_ok (d := d_is_integer) (N := N_is_integer) (ps := ["value"]) (p := 1) (m := b_is_integer) (k := 0) (ow := ow_is_integer) (Y.def_ 1) (Y.glo 17) S_is_integer rfl rfl (by decide) (fun _ _ _ _ _ _ us hl => match us, hl with | [_], _ => rfl) (fun cdv A outer s H E T => (ss_one (s_ret (x_and (x_isi1 (cs := CS) (t := .int) rfl (kit_of_b (Y.more 3)) rfl (Y.free 4) (w_of (x_var (pv 0) rfl)) (pe_bltn rfl (Y.free 0) hv_int rfl)) (x_one (x_not (x_isi1 (cs := CS) (t := .bl) rfl (kit_of_b (Y.more 3)) rfl (Y.free 4) (w_of (x_var (pv 0) rfl)) (pe_bltn rfl (Y.free 7) hv_bool rfl))))))))
theorem S_is_below : FnScope N_is_below ["value", "limit"] sc_is_below := ⟨rfl, rfl, rfl, by decide +kernel, rfl, by decide +kernel, by decide +kernel⟩
theorem c_is_below (Y : Fs P w K mg) : CallOk P w K mg base 2 "is_below" d_is_below ["value", "limit"] 2 m_is_below :=
  def_ok (d := d_is_below) (N := N_is_below) (ps := ["value", "limit"]) (p := 2) (m := b_is_below) (k := 1) (ow := ow_is_below) (Y.def_ 2) (Y.glo 18) S_is_below rfl rfl (by decide) (fun _ _ _ _ _ _ us hl => match us, hl with | [_, _], _ => rfl) (fun cdv A outer s H E T => (ss_one (s_ret (x_and (x_own1 T (c_is_integer Y) (by decide) rfl (xa_cons (x_var (pv 0) rfl) xa_nil)) (x_one (x_chain y_le y_lt n_le n_lt (w_of x_int) (w_of (x_var (pv 0) rfl)) (w_of (x_var (pv 1) rfl))))))))
theorem S_are_values : FnScope N_are_values ["numbers", "many"] sc_are_values := ⟨rfl, rfl, rfl, by decide +kernel, rfl, by decide +kernel, by decide +kernel⟩
theorem c_are_values (Y : Fs P w K mg) : CallOk P w K mg base 3 "are_values" d_are_values ["numbers", "many"] 2 m_are_values :=
  def_ok (d := d_are_values) (N := N_are_values) (ps := ["numbers", "many"]) (p := 2) (m := b_are_values) (k := 2) (ow := ow_are_values) (Y.def_ 3) (Y.glo 19) S_are_values rfl rfl (by decide) (fun _ _ _ _ _ _ us hl => match us, hl with | [_, _], _ => rfl) (fun cdv A outer s H E T => (ss_one (s_ret (x_b1 (v_all T.calm) n_all rfl (Y.free 10) hv_all (w_of (e_of (f_lc (own := [("number", 2)]) T (i_gr (i_seq (x_var (pv 0) rfl))) (blkOk_by (N := N_are_values) (sc := sc_are_values) (own := [("number", 2)]) (by decide +kernel)) (fun _ _ _ _ _ T1 => (g_nm (pg_name (i := 2) T1.nd rfl (Or.inl rfl)) rfl)) (fun _ _ _ _ _ T1 => ts_nil) (fun _ _ _ _ _ T1 => (x_own1 T1 (c_is_below Y) (by decide) rfl (xa_cons (x_var (pv 2) rfl) (xa_cons (x_var (pv 1) rfl) xa_nil)))) (by decide))))))))
theorem S_is_count_deed : FnScope N_is_count_deed ["value", "many"] sc_is_count_deed := ⟨rfl, rfl, rfl, by decide +kernel, rfl, by decide +kernel, by decide +kernel⟩
theorem c_is_count_deed (Y : Fs P w K mg) : CallOk P w K mg base 4 "is_count_deed" d_is_count_deed ["value", "many"] 2 m_is_count_deed :=
  def_ok (d := d_is_count_deed) (N := N_is_count_deed) (ps := ["value", "many"]) (p := 2) (m := b_is_count_deed) (k := 3) (ow := ow_is_count_deed) (Y.def_ 4) (Y.glo 20) S_is_count_deed rfl rfl (by decide) (fun _ _ _ _ _ _ us hl => match us, hl with | [_, _], _ => rfl) (fun cdv A outer s H E T => (ss_cons (s_if (t_cmp T.ne n_ne b_ne (w_of (x_b1 v_len n_len rfl (Y.free 3) hv_len (w_of (x_var (pv 0) rfl)))) (w_of x_int) rfl) (ss_one (s_ret x_bl)) ss_nil)
  (ss_cons (s_gen (ps_asg (x_slc (w_of (x_var (pv 0) rfl)) (o_some x_int) o_none) (g_tup T.calm (gs_cons (g_nm (pg_name (i := 2) T.nd rfl (Or.inl rfl)) rfl) (gs_cons (g_nm (pg_name (i := 3) T.nd rfl (Or.inl rfl)) rfl) (gs_cons (g_nm (pg_name (i := 4) T.nd rfl (Or.inl rfl)) rfl) gs_nil))))))
  (ss_cons (s_if (PW.pt (t_or (t_not (t_tst (w_of (x_own1 T (c_is_integer Y) (by decide) rfl (xa_cons (x_var (pv 2) rfl) xa_nil))) (by intro _; rfl))) (t_or (t_cmp T.nin n_notin b_notin (w_of (x_var (pv 2) rfl)) (w_of (x_tup (xa_cons x_int (xa_cons x_int (xa_cons x_int xa_nil))))) rfl) (t_or1 (t_not (t_tst (w_of (x_own1 T (c_is_below Y) (by decide) rfl (xa_cons (x_var (pv 3) rfl) (xa_cons (x_var (pv 2) rfl) xa_nil)))) (by intro _; rfl))))))) (ss_one (s_ret x_bl)) ss_nil)
  (ss_one (s_ret (x_and (x_isi1 (cs := CS) (t := .tup) rfl (kit_of_b (Y.more 3)) rfl (Y.free 4) (w_of (x_var (pv 4) rfl)) (pe_bltn rfl (Y.free 1) hv_tuple rfl)) (x_and (x_chain y_le y_le n_le n_le (w_of x_int) (w_of (x_b1 v_len n_len rfl (Y.free 3) hv_len (w_of (x_var (pv 4) rfl)))) (w_of x_int)) (x_one (x_own1 T (c_are_values Y) (by decide) rfl (xa_cons (x_var (pv 4) rfl) (xa_cons (x_var (pv 1) rfl) xa_nil))))))))))))
theorem S_is_deed : FnScope N_is_deed ["value", "many"] sc_is_deed := ⟨rfl, rfl, rfl, by decide +kernel, rfl, by decide +kernel, by decide +kernel⟩
theorem c_is_deed (Y : Fs P w K mg) : CallOk P w K mg base 5 "is_deed" d_is_deed ["value", "many"] 2 m_is_deed :=
  def_ok (d := d_is_deed) (N := N_is_deed) (ps := ["value", "many"]) (p := 2) (m := b_is_deed) (k := 4) (ow := ow_is_deed) (Y.def_ 5) (Y.glo 21) S_is_deed rfl rfl (by decide) (fun _ _ _ _ _ _ us hl => match us, hl with | [_, _], _ => rfl) (fun cdv A outer s H E T => (ss_cons (s_if (PW.pt (t_or (t_not (t_tst (w_of (x_isi1 (cs := CS) (t := .tup) rfl (kit_of_b (Y.more 3)) rfl (Y.free 4) (w_of (x_var (pv 0) rfl)) (pe_bltn rfl (Y.free 1) hv_tuple rfl))) (by intro _; rfl))) (t_or (t_not (t_tst (w_of (x_var (pv 0) rfl)) (by intro _; rfl))) (t_or1 (t_not (t_tst (w_of (x_isi1 (cs := CS) (t := .str) rfl (kit_of_b (Y.more 3)) rfl (Y.free 4) (w_of (x_idx T.ix (w_of (x_var (pv 0) rfl)) (w_of x_int))) (pe_bltn rfl (Y.free 8) hv_str rfl))) (by intro _; rfl))))))) (ss_one (s_ret x_bl)) ss_nil)
  (ss_cons (s_if (t_cmp T.eq n_eq b_eq (w_of (x_idx T.ix (w_of (x_var (pv 0) rfl)) (w_of x_int))) (w_of (x_str (s := "count"))) rfl) (ss_one (s_ret (x_own1 T (c_is_count_deed Y) (by decide) rfl (xa_cons (x_var (pv 0) rfl) (xa_cons (x_var (pv 1) rfl) xa_nil))))) ss_nil)
  (ss_cons (s_if (PW.pt (t_or (t_nothas (Y.tab 0 4 9) rfl (x_idx T.ix (w_of (x_var (pv 0) rfl)) (w_of x_int))) (t_or1 (t_cmp T.ne n_ne b_ne (w_of (x_b1 v_len n_len rfl (Y.free 3) hv_len (w_of (x_var (pv 0) rfl)))) (w_of (x_bin y_add n_add (w_of (x_look (Y.tab 0 4 9) rfl (x_idx T.ix (w_of (x_var (pv 0) rfl)) (w_of x_int)))) (w_of x_int))) rfl)))) (ss_one (s_ret x_bl)) ss_nil)
  (ss_one (s_ret (x_own1 T (c_are_values Y) (by decide) rfl (xa_cons (x_slc (w_of (x_var (pv 0) rfl)) (o_some x_int) o_none) (xa_cons (x_var (pv 1) rfl) xa_nil)))))))))
theorem S_is_inputs : FnScope N_is_inputs ["value"] sc_is_inputs := ⟨rfl, rfl, rfl, by decide +kernel, rfl, by decide +kernel, by decide +kernel⟩
theorem c_is_inputs (Y : Fs P w K mg) : CallOk P w K mg base 2 "is_inputs" d_is_inputs ["value"] 1 m_is_inputs :=
  def_ok (d := d_is_inputs) (N := N_is_inputs) (ps := ["value"]) (p := 1) (m := b_is_inputs) (k := 1) (ow := ow_is_inputs) (Y.def_ 6) (Y.glo 22) S_is_inputs rfl rfl (by decide) (fun _ _ _ _ _ _ us hl => match us, hl with | [_], _ => rfl) (fun cdv A outer s H E T => (ss_one (s_ret (x_and (x_own1 T (c_is_integer Y) (by decide) rfl (xa_cons (x_var (pv 0) rfl) xa_nil)) (x_one (x_chain y_le y_le n_le n_le (w_of x_int) (w_of (x_var (pv 0) rfl)) (w_of x_int)))))))
theorem S_Row_init : FnScope N_Row_init ["self", "inputs", "deeds", "out"] sc_Row_init := ⟨rfl, rfl, rfl, by decide +kernel, rfl, by decide +kernel, by decide +kernel⟩
theorem c_Row (Y : Fs P w K mg) : MakeOk P w K mg base 6 "Row" 4 m_Row :=
  cls_ok (name := "__init__") (qual := "Row.__init__") (params := defArgs st_Row_init) (body := defBody st_Row_init) (scope := sc_Row_init) (f := He.ma K (ca K "Row") "__init__") (N := N_Row_init) (p := 4) (m := b_Row_init) (k := 5) (ow := ow_Row_init) (Y.def_ 7) (Y.glo 5) (Y.mkr 23 (x := "Row")) S_Row_init rfl rfl rfl (by decide) (by decide) (fun _ _ _ _ _ _ us hl => match us, hl with | [_, _, _, _], _ => rfl) (fun cdv A outer s H E T => (ss_cons (s_if (t_not (t_tst (w_of (x_own1 T (c_is_inputs Y) (by decide) rfl (xa_cons (x_var (pv 1) rfl) xa_nil))) (by intro _; rfl))) (ss_one (s_raise T (er_InvalidRow Y) (by decide) rfl (xa_cons (x_str (s := "inputs")) (xa_cons x_int xa_nil)))) ss_nil)
  (ss_cons (s_set (ps_set (i := 4) T.nd rfl (Or.inl rfl) (x_own1 T (c_as_tuple Y) (by decide) rfl (xa_cons (x_var (pv 2) rfl) xa_nil))) rfl)
  (ss_cons (s_if (t_isN (w_of (x_var (pv 4) rfl))) (ss_one (s_raise T (er_InvalidRow Y) (by decide) rfl (xa_cons (x_str (s := "deeds")) (xa_cons x_int xa_nil)))) ss_nil)
  (ss_cons (s_for T.po T.calm (i_enum rfl (Y.free 6) (x_var (pv 4) rfl)) (g_tup T.calm (gs_cons (g_nm (pg_name (i := 5) T.nd rfl (Or.inl rfl)) rfl) (gs_cons (g_nm (pg_name (i := 6) T.nd rfl (Or.inl rfl)) rfl) gs_nil))) (ss_one (s_if (t_not (t_tst (w_of (x_own1 T (c_is_deed Y) (by decide) rfl (xa_cons (x_var (pv 6) rfl) (xa_cons (x_bin y_add n_add (w_of (x_var (pv 1) rfl)) (w_of (x_var (pv 5) rfl))) xa_nil)))) (by intro _; rfl))) (ss_one (s_raise T (er_InvalidRow Y) (by decide) rfl (xa_cons (x_str (s := "deeds")) (xa_cons (x_var (pv 5) rfl) xa_nil)))) ss_nil)))
  (ss_cons (s_if (t_not (t_tst (w_of (x_own1 T (c_is_below Y) (by decide) rfl (xa_cons (x_var (pv 3) rfl) (xa_cons (x_bin y_add n_add (w_of (x_var (pv 1) rfl)) (w_of (x_b1 v_len n_len rfl (Y.free 3) hv_len (w_of (x_var (pv 4) rfl))))) xa_nil)))) (by intro _; rfl))) (ss_one (s_raise T (er_InvalidRow Y) (by decide) rfl (xa_cons (x_str (s := "out")) (xa_cons x_int xa_nil)))) ss_nil)
  (ss_cons (s_setF (att_ok (Y.more 0)) (ps_fld (pv 0) (x_var (pv 1) rfl) rfl) rfl)
  (ss_cons (s_setF (att_ok (Y.more 1)) (ps_fld (pv 0) (x_var (pv 4) rfl) rfl) rfl)
  (ss_one (s_setF (att_ok (Y.more 2)) (ps_fld (pv 0) (x_var (pv 3) rfl) rfl) rfl))))))))))
theorem S__law_pick : FnScope N__law_pick ["pool", "many"] sc__law_pick := ⟨rfl, rfl, rfl, by decide +kernel, rfl, by decide +kernel, by decide +kernel⟩
theorem c_law_pick (Y : Fs P w K mg) : CallOk P w K mg base 1 "_law_pick" d__law_pick ["pool", "many"] 2 m_law_pick :=
  def_okP (d := d__law_pick) (N := N__law_pick) (ps := ["pool", "many"]) (kk := false) (m := b__law_pick) (k := 0) (oN := ow__law_pick) (oB := ow__law_pick) (Y.def_ 8) (Y.glo 24) S__law_pick rfl rfl draws_pick (fun _ _ _ _ _ _ us hl => match us, hl with | [_, _], _ => rfl) (fun cdv A outer s H E T => (ss_cons (s_if (t_cmp y_gt n_gt b_gt (w_of (x_idx T.ix (x_own (pv 0)) (w_of x_int))) (w_of x_int) rfl) (ss_cons (s_set (ps_set (i := 2) T.nd rfl (Or.inl rfl) (x_bin y_mod n_mod (w_of (x_t1 v_int n_int rfl (Y.free 0) hv_int (w_of (x_idx T.ix (x_own (pv 0)) (w_of x_int))))) (w_of (x_var (pv 1) rfl)))) rfl)
  (ss_cons (s_setL (i := 0) (ps_asg (x_bin y_fdiv n_fdiv (w_of (x_idx T.ix (x_own (pv 0)) (w_of x_int))) (w_of (x_var (pv 1) rfl))) (pg_sub (pv 0) x_int T.st)) rfl)
  (ss_one (s_retB (x_var (pv 2) rfl) rfl)))) ss_nil)
  (ss_cons (s_set (ps_set (i := 3) T.nd rfl (Or.inl rfl) x_int) rfl)
  (ss_cons (s_if (t_cmp y_lt n_lt b_lt (w_of (x_idx T.ix (x_own (pv 0)) (w_of x_int))) (w_of (x_b1 v_lenC n_lenC rfl (Y.free 3) hv_len (w_of (x_idx T.ix (x_own (pv 0)) (w_of x_int))))) rfl) (ss_cons (s_set (ps_set (i := 3) T.nd rfl (Or.inl rfl) (x_idxC T.ixC (w_of (x_idx T.ix (x_own (pv 0)) (w_of x_int))) (w_of (x_idx T.ix (x_own (pv 0)) (w_of x_int))))) rfl)
  (ss_one (s_setL (i := 0) (ps_asg (x_bin y_add n_add (w_of (x_idx T.ix (x_own (pv 0)) (w_of x_int))) (w_of x_int)) (pg_sub (pv 0) x_int T.st)) rfl))) ss_nil)
  (ss_cons (s_if (t_cmp y_gt n_gt b_gt (w_of (x_var (pv 3) rfl)) (w_of (x_bin y_add n_add (w_of (x_bin y_pow n_pow (w_of x_int) (w_of x_int))) (w_of x_int))) rfl) (ss_cons (s_set (ps_set (i := 3) T.nd rfl (Or.inl rfl) (x_bin y_sub n_sub (w_of (x_var (pv 3) rfl)) (w_of (x_bin y_pow n_pow (w_of x_int) (w_of x_int))))) rfl)
  (ss_cons (s_setL (i := 0) (ps_asg (x_bin y_fdiv n_fdiv (w_of (x_var (pv 3) rfl)) (w_of (x_var (pv 1) rfl))) (pg_sub (pv 0) x_int T.st)) rfl)
  (ss_one (s_retB (x_bin y_mod n_mod (w_of (x_t1 v_int n_int rfl (Y.free 0) hv_int (w_of (x_var (pv 3) rfl)))) (w_of (x_var (pv 1) rfl))) rfl)))) ss_nil)
  (ss_cons (s_setL (i := 0) (ps_asg (x_bin y_mod n_mod (w_of (x_t1 v_int n_int rfl (Y.free 0) hv_int (w_of (x_bin y_add n_add (w_of (x_bin y_add n_add (w_of (x_bin y_mul n_mul (w_of (x_idx T.ix (x_own (pv 0)) (w_of x_int))) (w_of x_int))) (w_of (x_bin y_mul n_mul (w_of (x_var (pv 3) rfl)) (w_of x_int))))) (w_of x_int))))) (w_of x_int)) (pg_sub (pv 0) x_int T.st)) rfl)
  (ss_one (s_retB (x_bin y_mod n_mod (w_of (x_bin y_fdiv n_fdiv (w_of (x_bin y_mod n_mod (w_of (x_t1 v_int n_int rfl (Y.free 0) hv_int (w_of (x_bin y_add n_add (w_of (x_bin y_mul n_mul (w_of (x_idx T.ix (x_own (pv 0)) (w_of x_int))) (w_of (x_idx T.ix (x_own (pv 0)) (w_of x_int))))) (w_of (x_bin y_mul n_mul (w_of (x_idx T.ix (x_own (pv 0)) (w_of x_int))) (w_of x_int))))))) (w_of x_int))) (w_of x_int))) (w_of (x_var (pv 1) rfl))) rfl))))))))
theorem S__law_deed : FnScope N__law_deed ["pool", "values"] sc__law_deed := ⟨rfl, rfl, rfl, by decide +kernel, rfl, by decide +kernel, by decide +kernel⟩
theorem c_law_deed (Y : Fs P w K mg) : CallOk P w K mg base 2 "_law_deed" d__law_deed ["pool", "values"] 2 m_law_deed :=
  def_ok (d := d__law_deed) (N := N__law_deed) (ps := ["pool", "values"]) (p := 2) (m := b__law_deed) (k := 1) (ow := ow__law_deed) (oN := owS []) (oB := owS []) (Y.def_ 9) (Y.glo 25) S__law_deed rfl rfl (by decide) (fun _ _ _ _ _ _ us hl => match us, hl with | [_, _], _ => rfl) (fun cdv A outer s H E T => (c_cons (o1 := owS []) (s_up (s_set (ps_set (i := 2) T.nd rfl (Or.inl rfl) (x_tup (xa_cons (x_str (s := "add")) (xa_cons (x_str (s := "sub")) (xa_cons (x_str (s := "minus")) (xa_cons (x_str (s := "shift")) (xa_cons (x_str (s := "count")) (xa_cons (x_str (s := "and")) (xa_cons (x_str (s := "or")) (xa_cons (x_str (s := "xor")) (xa_cons (x_str (s := "not")) (xa_cons (x_str (s := "zero")) (xa_cons (x_str (s := "ones")) xa_nil))))))))))))) rfl) (owS_le (by decide)) (by decide))
  (c_cons (o1 := owS []) (s_up (s_set (ps_set (i := 3) T.nd rfl (Or.inl rfl) (x_idx T.ix (w_of (x_var (pv 2) rfl)) (w_of (x_own1 T (c_law_pick Y) (by decide) rfl (xa_cons (x_var (pv 0) rfl) (xa_cons x_int xa_nil)))))) rfl) (owS_le (by decide)) (by decide))
  (c_cons (o1 := owS []) (c_if (t_cmp T.inn n_in b_in (w_of (x_var (pv 3) rfl)) (w_of (x_tup (xa_cons (x_str (s := "zero")) (xa_cons (x_str (s := "ones")) xa_nil)))) rfl) (c_one (s_up (s_ret (x_tup (xa_cons (x_var (pv 3) rfl) xa_nil))) (owS_le (by decide)) (by decide))) (c_cut (o1 := owS []) c_nil (owS_le (by decide)) (by decide)))
  (c_cons (o1 := owS []) (s_up (s_set (ps_set (i := 4) T.nd rfl (Or.inl rfl) (x_own1 T (c_law_pick Y) (by decide) rfl (xa_cons (x_var (pv 0) rfl) (xa_cons (x_var (pv 1) rfl) xa_nil)))) rfl) (owS_le (by decide)) (by decide))
  (c_cons (o1 := owS []) (c_if (t_cmp T.inn n_in b_in (w_of (x_var (pv 3) rfl)) (w_of (x_tup (xa_cons (x_str (s := "not")) (xa_cons (x_str (s := "shift")) (xa_cons (x_str (s := "minus")) xa_nil))))) rfl) (c_one (s_up (s_ret (x_tup (xa_cons (x_var (pv 3) rfl) (xa_cons (x_var (pv 4) rfl) xa_nil)))) (owS_le (by decide)) (by decide))) (c_cut (o1 := owS []) c_nil (owS_le (by decide)) (by decide)))
  (c_cons (o1 := owS []) (c_if (t_cmp T.eq n_eq b_eq (w_of (x_var (pv 3) rfl)) (w_of (x_str (s := "count"))) rfl) (c_cons (o1 := owS []) (s_up (s_set (ps_set (i := 5) T.nd rfl (Or.inl rfl) (x_idx T.ix (w_of (x_tup (xa_cons x_int (xa_cons x_int (xa_cons x_int xa_nil))))) (w_of (x_own1 T (c_law_pick Y) (by decide) rfl (xa_cons (x_var (pv 0) rfl) (xa_cons x_int xa_nil)))))) rfl) (owS_le (by decide)) (by decide))
  (c_cons (o1 := owS []) (s_up (s_set (ps_set (i := 6) T.nd rfl (Or.inl rfl) (x_own1 T (c_law_pick Y) (by decide) rfl (xa_cons (x_var (pv 0) rfl) (xa_cons (x_var (pv 5) rfl) xa_nil)))) rfl) (owS_le (by decide)) (by decide))
  (c_cons (o1 := owS [7]) (c_own (ps_set (i := 7) T.nd rfl (Or.inl rfl) (f_lst (xa_cons (x_var (pv 4) rfl) xa_nil))) rfl (owS_add (by decide)))
  (c_cons (o1 := owS [7]) (s_up (s_for T.po T.calm (i_rng1 rfl (Y.free 11) (x_own1 T (c_law_pick Y) (by decide) rfl (xa_cons (x_var (pv 0) rfl) (xa_cons x_int xa_nil)))) (g_nm (pg_name (i := 8) T.nd rfl (Or.inl rfl)) rfl) (c_one (s_up (s_app1 (i := 7) (pv 7) (x_own1 T (c_law_pick Y) (by decide) rfl (xa_cons (x_var (pv 0) rfl) (xa_cons (x_var (pv 1) rfl) xa_nil))) rfl) (owS_le (by decide)) (by decide)))) (owS_le (by decide)) (by decide))
  (c_cut (o1 := owS []) (c_one (s_up (s_ret (x_tup (xa_cons (x_var (pv 3) rfl) (xa_cons (x_var (pv 5) rfl) (xa_cons (x_var (pv 6) rfl) (xa_cons (x_t1 v_tuple n_tuple rfl (Y.free 1) hv_tuple (w_of (x_var (pv 7) rfl))) xa_nil)))))) (owS_le (by decide)) (by decide))) (owS_le (by decide)) (by decide)))))) (c_cut (o1 := owS []) c_nil (owS_le (by decide)) (by decide)))
  (c_one (s_up (s_ret (x_tup (xa_cons (x_var (pv 3) rfl) (xa_cons (x_var (pv 4) rfl) (xa_cons (x_own1 T (c_law_pick Y) (by decide) rfl (xa_cons (x_var (pv 0) rfl) (xa_cons (x_var (pv 1) rfl) xa_nil))) xa_nil))))) (owS_le (by decide)) (by decide))))))))))
theorem S__law_weight : FnScope N__law_weight ["deed"] sc__law_weight := ⟨rfl, rfl, rfl, by decide +kernel, rfl, by decide +kernel, by decide +kernel⟩
theorem c_law_weight (Y : Fs P w K mg) : CallOk P w K mg base 1 "_law_weight" d__law_weight ["deed"] 1 m_law_weight :=
  def_ok (d := d__law_weight) (N := N__law_weight) (ps := ["deed"]) (p := 1) (m := b__law_weight) (k := 0) (ow := ow__law_weight) (Y.def_ 10) (Y.glo 26) S__law_weight rfl rfl (by decide) (fun _ _ _ _ _ _ us hl => match us, hl with | [_], _ => rfl) (fun cdv A outer s H E T => (ss_cons (s_if (t_cmp T.eq n_eq b_eq (w_of (x_idx T.ix (w_of (x_var (pv 0) rfl)) (w_of x_int))) (w_of (x_str (s := "count"))) rfl) (ss_one (s_ret (x_idx T.ix (w_of (x_var (pv 0) rfl)) (w_of x_int)))) ss_nil)
  (ss_cons (s_if (t_cmp T.inn n_in b_in (w_of (x_idx T.ix (w_of (x_var (pv 0) rfl)) (w_of x_int))) (w_of (x_tup (xa_cons (x_str (s := "shift")) (xa_cons (x_str (s := "minus")) (xa_cons (x_str (s := "add")) (xa_cons (x_str (s := "sub")) xa_nil)))))) rfl) (ss_one (s_ret x_int)) ss_nil)
  (ss_one (s_ret x_int)))))
theorem S__law_deeds : FnScope N__law_deeds ["pool", "inputs", "size", "room"] sc__law_deeds := ⟨rfl, rfl, rfl, by decide +kernel, rfl, by decide +kernel, by decide +kernel⟩
theorem c_law_deeds (Y : Fs P w K mg) : CallOk P w K mg base 3 "_law_deeds" d__law_deeds ["pool", "inputs", "size", "room"] 4 m_law_deeds :=
  def_ok (d := d__law_deeds) (N := N__law_deeds) (ps := ["pool", "inputs", "size", "room"]) (p := 4) (m := b__law_deeds) (k := 2) (ow := ow__law_deeds) (oN := owS []) (oB := owS []) (Y.def_ 11) (Y.glo 27) S__law_deeds rfl rfl (by decide) (fun _ _ _ _ _ _ us hl => match us, hl with | [_, _, _, _], _ => rfl) (fun cdv A outer s H E T => (c_cons (o1 := owS [4]) (c_own (ps_set (i := 4) T.nd rfl (Or.inl rfl) (f_lst xa_nil)) rfl (owS_add (by decide)))
  (c_cons (o1 := owS [4, 5]) (c_own (ps_set (i := 5) T.nd rfl (Or.inl rfl) (f_dic0 true)) rfl (owS_add (by decide)))
  (c_cons (o1 := owS [4, 5]) (s_up (s_for T.po T.calm (i_rng1 rfl (Y.free 11) (x_var (pv 2) rfl)) (g_nm (pg_name (i := 6) T.nd rfl (Or.inl rfl)) rfl) (c_cons (o1 := owS [4, 5]) (s_up (s_set (ps_set (i := 7) T.nd rfl (Or.inl rfl) (x_own1 T (c_law_deed Y) (by decide) rfl (xa_cons (x_var (pv 0) rfl) (xa_cons (x_bin y_add n_add (w_of (x_var (pv 1) rfl)) (w_of (x_var (pv 6) rfl))) xa_nil)))) rfl) (owS_le (by decide)) (by decide))
  (c_cons (o1 := owS [4, 5]) (c_if (PW.pt (t_and (t_cmp y_gt n_gt b_gt (w_of (x_var (pv 6) rfl)) (w_of x_int) rfl) (t_and1 (t_cmp y_gt n_gt b_gt (w_of (x_own1 T (c_law_pick Y) (by decide) rfl (xa_cons (x_var (pv 0) rfl) (xa_cons x_int xa_nil)))) (w_of x_int) rfl)))) (c_one (s_up (s_set (ps_set (i := 7) T.nd rfl (Or.inl rfl) (x_idx T.ix (x_own (pv 4)) (w_of (x_own1 T (c_law_pick Y) (by decide) rfl (xa_cons (x_var (pv 0) rfl) (xa_cons (x_var (pv 6) rfl) xa_nil)))))) rfl) (owS_le (by decide)) (by decide))) (c_cut (o1 := owS [4, 5]) c_nil (owS_le (by decide)) (by decide)))
  (c_cons (o1 := owS [4, 5]) (c_if (t_cmp T.nin n_notin b_notin (w_of (x_var (pv 7) rfl)) (x_own (pv 5)) rfl) (c_one (c_if (t_cmp y_gt n_gt b_gt (w_of (x_own1 T (c_law_weight Y) (by decide) rfl (xa_cons (x_var (pv 7) rfl) xa_nil))) (w_of (x_var (pv 3) rfl)) rfl) (c_one (s_up (s_set (ps_set (i := 7) T.nd rfl (Or.inl rfl) (x_tup (xa_cons (x_str (s := "xor")) (xa_cons (x_own1 T (c_law_pick Y) (by decide) rfl (xa_cons (x_var (pv 0) rfl) (xa_cons (x_bin y_add n_add (w_of (x_var (pv 1) rfl)) (w_of (x_var (pv 6) rfl))) xa_nil))) (xa_cons (x_bin y_sub n_sub (w_of (x_bin y_add n_add (w_of (x_var (pv 1) rfl)) (w_of (x_var (pv 6) rfl)))) (w_of x_int)) xa_nil))))) rfl) (owS_le (by decide)) (by decide))) (c_one (s_up (s_set (ps_set (i := 3) T.nd rfl (Or.inl rfl) (x_bin y_fdiv n_fdiv (w_of (x_var (pv 3) rfl)) (w_of (x_own1 T (c_law_weight Y) (by decide) rfl (xa_cons (x_var (pv 7) rfl) xa_nil))))) rfl) (owS_le (by decide)) (by decide))))) (c_cut (o1 := owS [4, 5]) c_nil (owS_le (by decide)) (by decide)))
  (c_cons (o1 := owS [4, 5]) (s_up (s_setL (i := 5) (ps_asg x_bl (pg_sub (pv 5) (x_var (pv 7) rfl) T.st)) rfl) (owS_le (by decide)) (by decide))
  (c_one (s_up (s_app1 (i := 4) (pv 4) (x_var (pv 7) rfl) rfl) (owS_le (by decide)) (by decide)))))))) (owS_le (by decide)) (by decide))
  (c_cut (o1 := owS []) (c_one (s_up (s_ret (x_var (pv 4) rfl)) (owS_le (by decide)) (by decide))) (owS_le (by decide)) (by decide))))))
theorem S__law_number : FnScope N__law_number ["value", "below"] sc__law_number := ⟨rfl, rfl, rfl, by decide +kernel, rfl, by decide +kernel, by decide +kernel⟩
theorem c_law_number (Y : Fs P w K mg) : CallOk P w K mg base 1 "_law_number" d__law_number ["value", "below"] 2 m_law_number :=
  def_ok (d := d__law_number) (N := N__law_number) (ps := ["value", "below"]) (p := 2) (m := b__law_number) (k := 0) (ow := ow__law_number) (Y.def_ 12) (Y.glo 28) S__law_number rfl rfl (by decide) (fun _ _ _ _ _ _ us hl => match us, hl with | [_, _], _ => rfl) (fun cdv A outer s H E T => (ss_one (s_ret (x_and (x_isi1 (cs := CS) (t := .int) rfl (kit_of_b (Y.more 3)) rfl (Y.free 4) (w_of (x_var (pv 0) rfl)) (pe_bltn rfl (Y.free 0) hv_int rfl)) (x_and (x_not (x_isi1 (cs := CS) (t := .bl) rfl (kit_of_b (Y.more 3)) rfl (Y.free 4) (w_of (x_var (pv 0) rfl)) (pe_bltn rfl (Y.free 7) hv_bool rfl))) (x_one (x_chain y_le y_lt n_le n_lt (w_of x_int) (w_of (x_var (pv 0) rfl)) (w_of (x_var (pv 1) rfl)))))))))
theorem S__law_plain_deed : FnScope N__law_plain_deed ["deed", "values"] sc__law_plain_deed := ⟨rfl, rfl, rfl, by decide +kernel, rfl, by decide +kernel, by decide +kernel⟩
theorem c_law_plain_deed (Y : Fs P w K mg) : CallOk P w K mg base 2 "_law_plain_deed" d__law_plain_deed ["deed", "values"] 2 m_law_plain_deed :=
  def_ok (d := d__law_plain_deed) (N := N__law_plain_deed) (ps := ["deed", "values"]) (p := 2) (m := b__law_plain_deed) (k := 1) (ow := ow__law_plain_deed) (Y.def_ 13) (Y.glo 29) S__law_plain_deed rfl rfl (by decide) (fun _ _ _ _ _ _ us hl => match us, hl with | [_, _], _ => rfl) (fun cdv A outer s H E T => (ss_cons (s_if (PW.pt (t_or (t_not (t_tst (w_of (x_isi1 (cs := CS) (t := .tup) rfl (kit_of_b (Y.more 3)) rfl (Y.free 4) (w_of (x_var (pv 0) rfl)) (pe_bltn rfl (Y.free 1) hv_tuple rfl))) (by intro _; rfl))) (t_or (t_cmp y_lt n_lt b_lt (w_of (x_b1 v_len n_len rfl (Y.free 3) hv_len (w_of (x_var (pv 0) rfl)))) (w_of x_int) rfl) (t_or1 (t_not (t_tst (w_of (x_isi1 (cs := CS) (t := .str) rfl (kit_of_b (Y.more 3)) rfl (Y.free 4) (w_of (x_idx T.ix (w_of (x_var (pv 0) rfl)) (w_of x_int))) (pe_bltn rfl (Y.free 8) hv_str rfl))) (by intro _; rfl))))))) (ss_one (s_ret x_bl)) ss_nil)
  (ss_cons (s_set (ps_set (i := 2) T.nd rfl (Or.inl rfl) (x_slc (w_of (x_var (pv 0) rfl)) (o_some x_int) o_none)) rfl)
  (ss_cons (s_if (t_cmp T.eq n_eq b_eq (w_of (x_idx T.ix (w_of (x_var (pv 0) rfl)) (w_of x_int))) (w_of (x_str (s := "count"))) rfl) (ss_cons (s_if (PW.pt (t_or (t_cmp T.ne n_ne b_ne (w_of (x_b1 v_len n_len rfl (Y.free 3) hv_len (w_of (x_var (pv 0) rfl)))) (w_of x_int) rfl) (t_or (t_not (t_tst (w_of (x_own1 T (c_law_number Y) (by decide) rfl (xa_cons (x_idx T.ix (w_of (x_var (pv 0) rfl)) (w_of x_int)) (xa_cons x_int xa_nil)))) (by intro _; rfl))) (t_or1 (t_cmp T.nin n_notin b_notin (w_of (x_idx T.ix (w_of (x_var (pv 0) rfl)) (w_of x_int))) (w_of (x_tup (xa_cons x_int (xa_cons x_int (xa_cons x_int xa_nil))))) rfl))))) (ss_one (s_ret x_bl)) ss_nil)
  (ss_cons (s_if (PW.pt (t_or (t_not (t_tst (w_of (x_own1 T (c_law_number Y) (by decide) rfl (xa_cons (x_idx T.ix (w_of (x_var (pv 0) rfl)) (w_of x_int)) (xa_cons (x_idx T.ix (w_of (x_var (pv 0) rfl)) (w_of x_int)) xa_nil)))) (by intro _; rfl))) (t_or (t_not (t_tst (w_of (x_isi1 (cs := CS) (t := .tup) rfl (kit_of_b (Y.more 3)) rfl (Y.free 4) (w_of (x_idx T.ix (w_of (x_var (pv 0) rfl)) (w_of x_int))) (pe_bltn rfl (Y.free 1) hv_tuple rfl))) (by intro _; rfl))) (t_or1 (t_cmp T.nin n_notin b_notin (w_of (x_b1 v_len n_len rfl (Y.free 3) hv_len (w_of (x_idx T.ix (w_of (x_var (pv 0) rfl)) (w_of x_int))))) (w_of (x_tup (xa_cons x_int (xa_cons x_int (xa_cons x_int (xa_cons x_int xa_nil)))))) rfl))))) (ss_one (s_ret x_bl)) ss_nil)
  (ss_one (s_set (ps_set (i := 2) T.nd rfl (Or.inl rfl) (x_idx T.ix (w_of (x_var (pv 0) rfl)) (w_of x_int))) rfl)))) (ss_one (s_if (t_cmp T.eq n_eq b_eq (w_of (x_idx T.ix (w_of (x_var (pv 0) rfl)) (w_of x_int))) (w_of (x_str (s := "not"))) rfl) (ss_one (s_if (t_cmp T.ne n_ne b_ne (w_of (x_b1 v_len n_len rfl (Y.free 3) hv_len (w_of (x_var (pv 0) rfl)))) (w_of x_int) rfl) (ss_one (s_ret x_bl)) ss_nil)) (ss_one (s_if (PW.pt (t_or (t_cmp T.nin n_notin b_notin (w_of (x_idx T.ix (w_of (x_var (pv 0) rfl)) (w_of x_int))) (w_of (x_tup (xa_cons (x_str (s := "and")) (xa_cons (x_str (s := "add")) xa_nil)))) rfl) (t_or1 (t_cmp T.ne n_ne b_ne (w_of (x_b1 v_len n_len rfl (Y.free 3) hv_len (w_of (x_var (pv 0) rfl)))) (w_of x_int) rfl)))) (ss_one (s_ret x_bl)) ss_nil)))))
  (ss_cons (s_for T.po T.calm (i_seq (x_var (pv 2) rfl)) (g_nm (pg_name (i := 3) T.nd rfl (Or.inl rfl)) rfl) (ss_one (s_if (t_not (t_tst (w_of (x_own1 T (c_law_number Y) (by decide) rfl (xa_cons (x_var (pv 3) rfl) (xa_cons (x_var (pv 1) rfl) xa_nil)))) (by intro _; rfl))) (ss_one (s_ret x_bl)) ss_nil)))
  (ss_one (s_ret x_bl)))))))
theorem S__law_plain : FnScope N__law_plain ["answer", "inputs", "deeds"] sc__law_plain := ⟨rfl, rfl, rfl, by decide +kernel, rfl, by decide +kernel, by decide +kernel⟩
theorem c_law_plain (Y : Fs P w K mg) : CallOk P w K mg base 3 "_law_plain" d__law_plain ["answer", "inputs", "deeds"] 3 m_law_plain :=
  def_ok (d := d__law_plain) (N := N__law_plain) (ps := ["answer", "inputs", "deeds"]) (p := 3) (m := b__law_plain) (k := 2) (ow := ow__law_plain) (Y.def_ 14) (Y.glo 30) S__law_plain rfl rfl (by decide) (fun _ _ _ _ _ _ us hl => match us, hl with | [_, _, _], _ => rfl) (fun cdv A outer s H E T => (ss_cons (s_if (PW.pt (t_or (t_not (t_tst (w_of (x_isi1 (cs := CS) (t := (.cls "Row")) rfl (kit_of_b (Y.more 3)) rfl (Y.free 4) (w_of (x_var (pv 0) rfl)) (pe_glob rfl (Y.glo 5) rfl))) (by intro _; rfl))) (t_or (t_not (t_tst (w_of (x_own1 T (c_law_number Y) (by decide) rfl (xa_cons (x_attr (att_ok (Y.more 0)) (w_of (x_var (pv 0) rfl))) (xa_cons x_int xa_nil)))) (by intro _; rfl))) (t_or1 (t_cmp T.ne n_ne b_ne (w_of (x_attr (att_ok (Y.more 0)) (w_of (x_var (pv 0) rfl)))) (w_of (x_var (pv 1) rfl)) rfl))))) (ss_one (s_ret x_bl)) ss_nil)
  (ss_cons (s_if (PW.pt (t_or (t_not (t_tst (w_of (x_isi1 (cs := CS) (t := .tup) rfl (kit_of_b (Y.more 3)) rfl (Y.free 4) (w_of (x_attr (att_ok (Y.more 1)) (w_of (x_var (pv 0) rfl)))) (pe_bltn rfl (Y.free 1) hv_tuple rfl))) (by intro _; rfl))) (t_or1 (t_cmp y_gt n_gt b_gt (w_of (x_b1 v_len n_len rfl (Y.free 3) hv_len (w_of (x_attr (att_ok (Y.more 1)) (w_of (x_var (pv 0) rfl)))))) (w_of (x_bin y_add n_add (w_of (x_bin y_mul n_mul (w_of x_int) (w_of (x_b1 v_len n_len rfl (Y.free 3) hv_len (w_of (x_var (pv 2) rfl)))))) (w_of x_int))) rfl)))) (ss_one (s_ret x_bl)) ss_nil)
  (ss_cons (s_for T.po T.calm (i_rng1 rfl (Y.free 11) (x_b1 v_len n_len rfl (Y.free 3) hv_len (w_of (x_attr (att_ok (Y.more 1)) (w_of (x_var (pv 0) rfl)))))) (g_nm (pg_name (i := 3) T.nd rfl (Or.inl rfl)) rfl) (ss_one (s_if (t_not (t_tst (w_of (x_own1 T (c_law_plain_deed Y) (by decide) rfl (xa_cons (x_idx T.ix (w_of (x_attr (att_ok (Y.more 1)) (w_of (x_var (pv 0) rfl)))) (w_of (x_var (pv 3) rfl))) (xa_cons (x_bin y_add n_add (w_of (x_var (pv 1) rfl)) (w_of (x_var (pv 3) rfl))) xa_nil)))) (by intro _; rfl))) (ss_one (s_ret x_bl)) ss_nil)))
  (ss_cons (s_if (t_not (t_tst (w_of (x_own1 T (c_law_number Y) (by decide) rfl (xa_cons (x_attr (att_ok (Y.more 2)) (w_of (x_var (pv 0) rfl))) (xa_cons (x_bin y_add n_add (w_of (x_var (pv 1) rfl)) (w_of (x_b1 v_len n_len rfl (Y.free 3) hv_len (w_of (x_attr (att_ok (Y.more 1)) (w_of (x_var (pv 0) rfl))))))) xa_nil)))) (by intro _; rfl))) (ss_one (s_ret x_bl)) ss_nil)
  (ss_cons (s_set (s_f (s_lc0 (i := 4) (own := [("deed", 6)]) T rfl rfl rfl (i_gr (i_seq (x_var (pv 2) rfl))) (blkOk_by (N := N__law_plain) (sc := sc__law_plain) (own := [("deed", 6)]) (by decide +kernel)) (fun _ _ _ _ _ T1 => (g_nm (pg_name (i := 6) T1.nd rfl (Or.inl rfl)) rfl)) (fun _ _ _ _ _ T1 => (ts_one (t_cmp T1.inn n_in b_in (w_of (x_idx T1.ix (w_of (x_var (pv 6) rfl)) (w_of x_int))) (w_of (x_tup (xa_cons (x_str (s := "shift")) (xa_cons (x_str (s := "minus")) (xa_cons (x_str (s := "add")) (xa_cons (x_str (s := "sub")) xa_nil)))))) rfl))) (fun _ _ _ _ _ T1 => (x_var (pv 6) rfl)) (by decide))) rfl)
  (ss_cons (s_set (s_f (s_lc0 (i := 5) (own := [("deed", 6)]) T rfl rfl rfl (i_gr (i_seq (x_var (pv 2) rfl))) (blkOk_by (N := N__law_plain) (sc := sc__law_plain) (own := [("deed", 6)]) (by decide +kernel)) (fun _ _ _ _ _ T2 => (g_nm (pg_name (i := 6) T2.nd rfl (Or.inl rfl)) rfl)) (fun _ _ _ _ _ T2 => (ts_one (t_cmp T2.eq n_eq b_eq (w_of (x_idx T2.ix (w_of (x_var (pv 6) rfl)) (w_of x_int))) (w_of (x_str (s := "count"))) rfl))) (fun _ _ _ _ _ T2 => (x_var (pv 6) rfl)) (by decide))) rfl)
  (ss_cons (s_if (t_cmp T.ne n_ne b_ne (w_of (x_b1 v_len n_len rfl (Y.free 3) hv_len (w_of (e_of (f_lc (own := [("deed", 6)]) T (i_gr (i_seq (x_attr (att_ok (Y.more 1)) (w_of (x_var (pv 0) rfl))))) (blkOk_by (N := N__law_plain) (sc := sc__law_plain) (own := [("deed", 6)]) (by decide +kernel)) (fun _ _ _ _ _ T3 => (g_nm (pg_name (i := 6) T3.nd rfl (Or.inl rfl)) rfl)) (fun _ _ _ _ _ T3 => (ts_one (t_cmp T3.eq n_eq b_eq (w_of (x_idx T3.ix (w_of (x_var (pv 6) rfl)) (w_of x_int))) (w_of (x_str (s := "add"))) rfl))) (fun _ _ _ _ _ T3 => (x_var (pv 6) rfl)) (by decide)))))) (w_of (x_b1 v_len n_len rfl (Y.free 3) hv_len (w_of (x_var (pv 4) rfl)))) rfl) (ss_one (s_ret x_bl)) ss_nil)
  (ss_one (s_ret (x_cmp T.eq n_eq (w_of (x_b1 v_len n_len rfl (Y.free 3) hv_len (w_of (e_of (f_lc (own := [("deed", 6)]) T (i_gr (i_seq (x_attr (att_ok (Y.more 1)) (w_of (x_var (pv 0) rfl))))) (blkOk_by (N := N__law_plain) (sc := sc__law_plain) (own := [("deed", 6)]) (by decide +kernel)) (fun _ _ _ _ _ T4 => (g_nm (pg_name (i := 6) T4.nd rfl (Or.inl rfl)) rfl)) (fun _ _ _ _ _ T4 => (ts_one (t_cmp T4.eq n_eq b_eq (w_of (x_idx T4.ix (w_of (x_var (pv 6) rfl)) (w_of x_int))) (w_of (x_str (s := "count"))) rfl))) (fun _ _ _ _ _ T4 => (x_var (pv 6) rfl)) (by decide)))))) (w_of (x_b1 v_len n_len rfl (Y.free 3) hv_len (w_of (x_var (pv 5) rfl)))) rfl)))))))))))
theorem S__law_mark : FnScope N__law_mark ["name", "mark", "one", "two"] sc__law_mark := ⟨rfl, rfl, rfl, by decide +kernel, rfl, by decide +kernel, by decide +kernel⟩
theorem c_law_mark (Y : Fs P w K mg) : CallOk P w K mg base 1 "_law_mark" d__law_mark ["name", "mark", "one", "two"] 4 m_law_mark :=
  def_ok (d := d__law_mark) (N := N__law_mark) (ps := ["name", "mark", "one", "two"]) (p := 4) (m := b__law_mark) (k := 0) (ow := ow__law_mark) (Y.def_ 15) (Y.glo 31) S__law_mark rfl rfl (by decide) (fun _ _ _ _ _ _ us hl => match us, hl with | [_, _, _, _], _ => rfl) (fun cdv A outer s H E T => (ss_cons (s_if (t_cmp T.eq n_eq b_eq (w_of (x_var (pv 0) rfl)) (w_of (x_str (s := "shift"))) rfl) (ss_one (s_ret (x_tup (xa_cons (x_var (pv 1) rfl) (xa_cons (x_var (pv 2) rfl) xa_nil))))) ss_nil)
  (ss_cons (s_set (ps_set (i := 4) T.nd rfl (Or.inl rfl) (x_bin y_add n_add (w_of (x_bin y_add n_add (w_of (x_var (pv 2) rfl)) (w_of (x_var (pv 3) rfl)))) (w_of (x_var (pv 1) rfl)))) rfl)
  (ss_cons (s_if (t_cmp T.eq n_eq b_eq (w_of (x_var (pv 0) rfl)) (w_of (x_str (s := "minus"))) rfl) (ss_one (s_ret (x_tup (xa_cons (x_bin y_and n_and (w_of (x_var (pv 4) rfl)) (w_of x_int)) (xa_cons (x_t1 v_int n_int rfl (Y.free 0) hv_int (w_of (x_cmp y_ge n_ge (w_of (x_var (pv 4) rfl)) (w_of x_int) rfl))) xa_nil))))) ss_nil)
  (ss_cons (s_if (t_cmp T.eq n_eq b_eq (w_of (x_var (pv 0) rfl)) (w_of (x_str (s := "add"))) rfl) (ss_one (s_ret (x_tup (xa_cons (x_bin y_and n_and (w_of (x_var (pv 4) rfl)) (w_of x_int)) (xa_cons (x_t1 v_int n_int rfl (Y.free 0) hv_int (w_of (x_cmp y_ge n_ge (w_of (x_var (pv 4) rfl)) (w_of x_int) rfl))) xa_nil))))) ss_nil)
  (ss_one (s_ret (x_tup (xa_cons (x_bin y_and n_and (w_of (x_var (pv 4) rfl)) (w_of x_int)) (xa_cons (x_t1 v_int n_int rfl (Y.free 0) hv_int (w_of (x_cmp y_lt n_lt (w_of (x_var (pv 2) rfl)) (w_of (x_bin y_add n_add (w_of (x_var (pv 3) rfl)) (w_of (x_var (pv 1) rfl)))) rfl))) xa_nil))))))))))
theorem S__law_step : FnScope N__law_step ["inputs", "deeds", "marks", "letter"] sc__law_step := ⟨rfl, rfl, rfl, by decide +kernel, rfl, by decide +kernel, by decide +kernel⟩
theorem c_law_step (Y : Fs P w K mg) : CallOk P w K mg base 2 "_law_step" d__law_step ["inputs", "deeds", "marks", "letter"] 4 m_law_step :=
  def_ok (d := d__law_step) (N := N__law_step) (ps := ["inputs", "deeds", "marks", "letter"]) (p := 4) (m := b__law_step) (k := 1) (ow := ow__law_step) (oN := owS []) (oB := owS []) (Y.def_ 16) (Y.glo 32) S__law_step rfl rfl (by decide) (fun _ _ _ _ _ _ us hl => match us, hl with | [_, _, _, _], _ => rfl) (fun cdv A outer s H E T => (c_cons (o1 := owS [4]) (c_own (ps_set (i := 4) T.nd rfl (Or.inr rfl) (f_lc (own := [("i", 11)]) T (i_gr (i_rng1 rfl (Y.free 11) (x_var (pv 0) rfl))) (blkOk_by (N := N__law_step) (sc := sc__law_step) (own := [("i", 11)]) (by decide +kernel)) (fun _ _ _ _ _ T1 => (g_nm (pg_name (i := 11) T1.nd rfl (Or.inl rfl)) rfl)) (fun _ _ _ _ _ T1 => ts_nil) (fun _ _ _ _ _ T1 => (x_bin y_and n_and (w_of (x_bin y_shr n_shr (w_of (x_var (pv 3) rfl)) (w_of (x_var (pv 11) rfl)))) (w_of x_int))) (by decide))) rfl (owS_add (by decide)))
  (c_cons (o1 := owS [4, 5]) (c_own (ps_set (i := 5) T.nd rfl (Or.inl rfl) (f_lst xa_nil)) rfl (owS_add (by decide)))
  (c_cons (o1 := owS [4, 5]) (s_up (s_for T.po T.calm (i_seq (x_var (pv 1) rfl)) (g_nm (pg_name (i := 6) T.nd rfl (Or.inl rfl)) rfl) (c_cons (o1 := owS [4, 5]) (s_up (s_set (ps_set (i := 7) T.nd rfl (Or.inl rfl) (x_idx T.ix (w_of (x_var (pv 6) rfl)) (w_of x_int))) rfl) (owS_le (by decide)) (by decide))
  (c_one (c_if (t_cmp T.eq n_eq b_eq (w_of (x_var (pv 7) rfl)) (w_of (x_str (s := "not"))) rfl) (c_one (s_up (s_app1 (i := 4) (pv 4) (x_bin y_sub n_sub (w_of x_int) (w_of (x_idx T.ix (x_own (pv 4)) (w_of (x_idx T.ix (w_of (x_var (pv 6) rfl)) (w_of x_int)))))) rfl) (owS_le (by decide)) (by decide))) (c_one (c_if (t_cmp T.eq n_eq b_eq (w_of (x_var (pv 7) rfl)) (w_of (x_str (s := "and"))) rfl) (c_one (s_up (s_app1 (i := 4) (pv 4) (x_bin y_and n_and (w_of (x_idx T.ix (x_own (pv 4)) (w_of (x_idx T.ix (w_of (x_var (pv 6) rfl)) (w_of x_int))))) (w_of (x_idx T.ix (x_own (pv 4)) (w_of (x_idx T.ix (w_of (x_var (pv 6) rfl)) (w_of x_int)))))) rfl) (owS_le (by decide)) (by decide))) (c_one (c_if (t_cmp T.eq n_eq b_eq (w_of (x_var (pv 7) rfl)) (w_of (x_str (s := "or"))) rfl) (c_one (s_up (s_app1 (i := 4) (pv 4) (x_bin y_or n_or (w_of (x_idx T.ix (x_own (pv 4)) (w_of (x_idx T.ix (w_of (x_var (pv 6) rfl)) (w_of x_int))))) (w_of (x_idx T.ix (x_own (pv 4)) (w_of (x_idx T.ix (w_of (x_var (pv 6) rfl)) (w_of x_int)))))) rfl) (owS_le (by decide)) (by decide))) (c_one (c_if (t_cmp T.eq n_eq b_eq (w_of (x_var (pv 7) rfl)) (w_of (x_str (s := "xor"))) rfl) (c_one (s_up (s_app1 (i := 4) (pv 4) (x_bin y_xor n_xor (w_of (x_idx T.ix (x_own (pv 4)) (w_of (x_idx T.ix (w_of (x_var (pv 6) rfl)) (w_of x_int))))) (w_of (x_idx T.ix (x_own (pv 4)) (w_of (x_idx T.ix (w_of (x_var (pv 6) rfl)) (w_of x_int)))))) rfl) (owS_le (by decide)) (by decide))) (c_one (c_if (t_cmp T.inn n_in b_in (w_of (x_var (pv 7) rfl)) (w_of (x_tup (xa_cons (x_str (s := "zero")) (xa_cons (x_str (s := "ones")) xa_nil)))) rfl) (c_one (s_up (s_app1 (i := 4) (pv 4) (x_t1 v_int n_int rfl (Y.free 0) hv_int (w_of (x_cmp T.eq n_eq (w_of (x_var (pv 7) rfl)) (w_of (x_str (s := "ones"))) rfl))) rfl) (owS_le (by decide)) (by decide))) (c_one (c_if (t_cmp T.eq n_eq b_eq (w_of (x_var (pv 7) rfl)) (w_of (x_str (s := "count"))) rfl) (c_cons (o1 := owS [4, 5]) (s_up (s_set (ps_set (i := 8) T.nd rfl (Or.inl rfl) (x_idx T.ix (w_of (x_var (pv 2) rfl)) (w_of (x_b1 v_len n_len rfl (Y.free 3) hv_len (x_own (pv 5)))))) rfl) (owS_le (by decide)) (by decide))
  (c_cons (o1 := owS [4, 5]) (s_up (s_app1 (i := 4) (pv 4) (x_t1 v_int n_int rfl (Y.free 0) hv_int (w_of (x_cmp T.eq n_eq (w_of (x_var (pv 8) rfl)) (w_of (x_idx T.ix (w_of (x_var (pv 6) rfl)) (w_of x_int))) rfl))) rfl) (owS_le (by decide)) (by decide))
  (c_one (s_up (s_app1 (i := 5) (pv 5) (x_bin y_mod n_mod (w_of (x_t1 v_int n_int rfl (Y.free 0) hv_int (w_of (x_bin y_add n_add (w_of (x_var (pv 8) rfl)) (w_of (x_b1 (v_sum T.calm) n_sum rfl (Y.free 14) hv_sum (w_of (e_of (f_lc (own := [("part", 12)]) T (i_gr (i_seq (x_idx T.ix (w_of (x_var (pv 6) rfl)) (w_of x_int)))) (blkOk_by (N := N__law_step) (sc := sc__law_step) (own := [("part", 12)]) (by decide +kernel)) (fun _ _ _ _ _ T2 => (g_nm (pg_name (i := 12) T2.nd rfl (Or.inl rfl)) rfl)) (fun _ _ _ _ _ T2 => ts_nil) (fun _ _ _ _ _ T2 => (x_idx T2.ix (x_own (pv 4)) (w_of (x_var (pv 12) rfl)))) (by decide)))))))))) (w_of (x_idx T.ix (w_of (x_var (pv 6) rfl)) (w_of x_int)))) rfl) (owS_le (by decide)) (by decide))))) (c_cons (o1 := owS [4, 5]) (s_up (s_set (ps_set (i := 9) T.nd rfl (Or.inl rfl) x_int) rfl) (owS_le (by decide)) (by decide))
  (c_cons (o1 := owS [4, 5]) (c_if (t_cmp y_gt n_gt b_gt (w_of (x_b1 v_len n_len rfl (Y.free 3) hv_len (w_of (x_var (pv 6) rfl)))) (w_of x_int) rfl) (c_one (s_up (s_set (ps_set (i := 9) T.nd rfl (Or.inl rfl) (x_idx T.ix (x_own (pv 4)) (w_of (x_idx T.ix (w_of (x_var (pv 6) rfl)) (w_of x_int))))) rfl) (owS_le (by decide)) (by decide))) (c_cut (o1 := owS [4, 5]) c_nil (owS_le (by decide)) (by decide)))
  (c_cons (o1 := owS [4, 5]) (s_up (s_gen (ps_asg (x_own1 T (c_law_mark Y) (by decide) rfl (xa_cons (x_var (pv 7) rfl) (xa_cons (x_idx T.ix (w_of (x_var (pv 2) rfl)) (w_of (x_b1 v_len n_len rfl (Y.free 3) hv_len (x_own (pv 5))))) (xa_cons (x_idx T.ix (x_own (pv 4)) (w_of (x_idx T.ix (w_of (x_var (pv 6) rfl)) (w_of x_int)))) (xa_cons (x_var (pv 9) rfl) xa_nil))))) (g_tup T.calm (gs_cons (g_nm (pg_name (i := 10) T.nd rfl (Or.inl rfl)) rfl) (gs_cons (g_nm (pg_name (i := 8) T.nd rfl (Or.inl rfl)) rfl) gs_nil))))) (owS_le (by decide)) (by decide))
  (c_cons (o1 := owS [4, 5]) (s_up (s_app1 (i := 4) (pv 4) (x_var (pv 10) rfl) rfl) (owS_le (by decide)) (by decide))
  (c_one (s_up (s_app1 (i := 5) (pv 5) (x_var (pv 8) rfl) rfl) (owS_le (by decide)) (by decide))))))))))))))))))))) (owS_le (by decide)) (by decide))
  (c_cut (o1 := owS []) (c_one (s_up (s_ret (x_tup (xa_cons (x_var (pv 4) rfl) (xa_cons (x_t1 v_tuple n_tuple rfl (Y.free 1) hv_tuple (w_of (x_var (pv 5) rfl))) xa_nil)))) (owS_le (by decide)) (by decide))) (owS_le (by decide)) (by decide))))))
theorem S__law_both : FnScope N__law_both ["inputs", "one", "two", "pair", "letter"] sc__law_both := ⟨rfl, rfl, rfl, by decide +kernel, rfl, by decide +kernel, by decide +kernel⟩
theorem c_law_both (Y : Fs P w K mg) : CallOk P w K mg base 3 "_law_both" d__law_both ["inputs", "one", "two", "pair", "letter"] 5 m_law_both :=
  def_ok (d := d__law_both) (N := N__law_both) (ps := ["inputs", "one", "two", "pair", "letter"]) (p := 5) (m := b__law_both) (k := 2) (ow := ow__law_both) (Y.def_ 17) (Y.glo 33) S__law_both rfl rfl (by decide) (fun _ _ _ _ _ _ us hl => match us, hl with | [_, _, _, _, _], _ => rfl) (fun cdv A outer s H E T => (ss_cons (s_gen (ps_asg (x_own1 T (c_law_step Y) (by decide) rfl (xa_cons (x_var (pv 0) rfl) (xa_cons (x_idx T.ix (w_of (x_var (pv 1) rfl)) (w_of x_int)) (xa_cons (x_idx T.ix (w_of (x_var (pv 3) rfl)) (w_of x_int)) (xa_cons (x_var (pv 4) rfl) xa_nil))))) (g_tup T.calm (gs_cons (g_nm (pg_name (i := 5) T.nd rfl (Or.inl rfl)) rfl) (gs_cons (g_nm (pg_name (i := 6) T.nd rfl (Or.inl rfl)) rfl) gs_nil)))))
  (ss_cons (s_gen (ps_asg (x_own1 T (c_law_step Y) (by decide) rfl (xa_cons (x_var (pv 0) rfl) (xa_cons (x_idx T.ix (w_of (x_var (pv 2) rfl)) (w_of x_int)) (xa_cons (x_idx T.ix (w_of (x_var (pv 3) rfl)) (w_of x_int)) (xa_cons (x_var (pv 4) rfl) xa_nil))))) (g_tup T.calm (gs_cons (g_nm (pg_name (i := 7) T.nd rfl (Or.inl rfl)) rfl) (gs_cons (g_nm (pg_name (i := 8) T.nd rfl (Or.inl rfl)) rfl) gs_nil)))))
  (ss_cons (s_if (t_cmp T.ne n_ne b_ne (w_of (x_idx T.ix (w_of (x_var (pv 5) rfl)) (w_of (x_idx T.ix (w_of (x_var (pv 1) rfl)) (w_of x_int))))) (w_of (x_idx T.ix (w_of (x_var (pv 7) rfl)) (w_of (x_idx T.ix (w_of (x_var (pv 2) rfl)) (w_of x_int))))) rfl) (ss_one (s_ret x_non)) ss_nil)
  (ss_one (s_ret (x_tup (xa_cons (x_var (pv 6) rfl) (xa_cons (x_var (pv 8) rfl) xa_nil)))))))))
theorem S__law_first : FnScope N__law_first ["deeds"] sc__law_first := ⟨rfl, rfl, rfl, by decide +kernel, rfl, by decide +kernel, by decide +kernel⟩
theorem c_law_first (Y : Fs P w K mg) : CallOk P w K mg base 2 "_law_first" d__law_first ["deeds"] 1 m_law_first :=
  def_ok (d := d__law_first) (N := N__law_first) (ps := ["deeds"]) (p := 1) (m := b__law_first) (k := 1) (ow := ow__law_first) (Y.def_ 18) (Y.glo 34) S__law_first rfl rfl (by decide) (fun _ _ _ _ _ _ us hl => match us, hl with | [_], _ => rfl) (fun cdv A outer s H E T => (ss_one (s_ret (x_t1 v_tuple n_tuple rfl (Y.free 1) hv_tuple (w_of (e_of (f_lc (own := [("deed", 1)]) T (i_gr (i_seq (x_var (pv 0) rfl))) (blkOk_by (N := N__law_first) (sc := sc__law_first) (own := [("deed", 1)]) (by decide +kernel)) (fun _ _ _ _ _ T1 => (g_nm (pg_name (i := 1) T1.nd rfl (Or.inl rfl)) rfl)) (fun _ _ _ _ _ T1 => (ts_one (t_cmp y_gt n_gt b_gt (w_of (x_own1 T1 (c_law_weight Y) (by decide) rfl (xa_cons (x_var (pv 1) rfl) xa_nil))) (w_of x_int) rfl))) (fun _ _ _ _ _ T1 => x_int) (by decide))))))))
theorem S__law_same : FnScope N__law_same ["pool", "inputs", "one", "two"] sc__law_same := ⟨rfl, rfl, rfl, by decide +kernel, rfl, by decide +kernel, by decide +kernel⟩
theorem c_law_same (Y : Fs P w K mg) : CallOk P w K mg base 4 "_law_same" d__law_same ["pool", "inputs", "one", "two"] 4 m_law_same :=
  def_ok (d := d__law_same) (N := N__law_same) (ps := ["pool", "inputs", "one", "two"]) (p := 4) (m := b__law_same) (k := 3) (ow := ow__law_same) (oN := owS []) (oB := owS []) (Y.def_ 19) (Y.glo 35) S__law_same rfl rfl (by decide) (fun _ _ _ _ _ _ us hl => match us, hl with | [_, _, _, _], _ => rfl) (fun cdv A outer s H E T => (c_cons (o1 := owS []) (s_up (s_set (ps_set (i := 4) T.nd rfl (Or.inl rfl) (x_bin y_shl n_shl (w_of (x_bin y_add n_add (w_of (x_bin y_add n_add (w_of (x_b1 v_len n_len rfl (Y.free 3) hv_len (w_of (x_idx T.ix (w_of (x_var (pv 2) rfl)) (w_of x_int))))) (w_of (x_b1 v_len n_len rfl (Y.free 3) hv_len (w_of (x_idx T.ix (w_of (x_var (pv 3) rfl)) (w_of x_int))))))) (w_of x_int))) (w_of (x_var (pv 1) rfl)))) rfl) (owS_le (by decide)) (by decide))
  (c_cons (o1 := owS []) (s_up (s_set (ps_set (i := 5) T.nd rfl (Or.inl rfl) (x_b2 (v_min2 T.calm) n_min2 rfl (Y.free 12) hv_min (w_of x_int) (w_of (x_b2 (v_max2 T.calm) n_max2 rfl (Y.free 13) hv_max (w_of x_int) (w_of (x_bin y_fdiv n_fdiv (w_of x_int) (w_of (x_var (pv 4) rfl)))))))) rfl) (owS_le (by decide)) (by decide))
  (c_cons (o1 := owS []) (s_up (s_set (ps_set (i := 6) T.nd rfl (Or.inl rfl) (x_tup (xa_cons (x_own1 T (c_law_first Y) (by decide) rfl (xa_cons (x_idx T.ix (w_of (x_var (pv 2) rfl)) (w_of x_int)) xa_nil)) (xa_cons (x_own1 T (c_law_first Y) (by decide) rfl (xa_cons (x_idx T.ix (w_of (x_var (pv 3) rfl)) (w_of x_int)) xa_nil)) xa_nil)))) rfl) (owS_le (by decide)) (by decide))
  (c_cons (o1 := owS [7]) (c_own (ps_set (i := 7) T.nd rfl (Or.inl rfl) (f_lst (xa_cons (x_var (pv 6) rfl) xa_nil))) rfl (owS_add (by decide)))
  (c_cons (o1 := owS [7, 8]) (c_own (ps_set (i := 8) T.nd rfl (Or.inl rfl) (f_dicT T.dh (x_var (pv 6) rfl) x_bl)) rfl (owS_add (by decide)))
  (c_cons (o1 := owS [7, 8]) (s_up (s_for T.po T.calm (i_rng1 rfl (Y.free 11) (x_var (pv 5) rfl)) (g_nm (pg_name (i := 9) T.nd rfl (Or.inl rfl)) rfl) (c_one (c_if (t_cmp y_lt n_lt b_lt (w_of (x_var (pv 9) rfl)) (w_of (x_b1 v_len n_len rfl (Y.free 3) hv_len (x_own (pv 7)))) rfl) (c_one (s_up (s_for T.po T.calm (i_rng1 rfl (Y.free 11) (x_bin y_shl n_shl (w_of x_int) (w_of (x_var (pv 1) rfl)))) (g_nm (pg_name (i := 10) T.nd rfl (Or.inl rfl)) rfl) (c_cons (o1 := owS [7, 8]) (s_up (s_set (ps_set (i := 11) T.nd rfl (Or.inl rfl) (x_own1 T (c_law_both Y) (by decide) rfl (xa_cons (x_var (pv 1) rfl) (xa_cons (x_var (pv 2) rfl) (xa_cons (x_var (pv 3) rfl) (xa_cons (x_idx T.ix (x_own (pv 7)) (w_of (x_var (pv 9) rfl))) (xa_cons (x_var (pv 10) rfl) xa_nil))))))) rfl) (owS_le (by decide)) (by decide))
  (c_cons (o1 := owS [7, 8]) (c_if (t_isN (w_of (x_var (pv 11) rfl))) (c_one (s_up (s_ret x_bl) (owS_le (by decide)) (by decide))) (c_cut (o1 := owS [7, 8]) c_nil (owS_le (by decide)) (by decide)))
  (c_one (c_if (t_cmp T.nin n_notin b_notin (w_of (x_var (pv 11) rfl)) (x_own (pv 8)) rfl) (c_cons (o1 := owS [7, 8]) (s_up (s_setL (i := 8) (ps_asg x_bl (pg_sub (pv 8) (x_var (pv 11) rfl) T.st)) rfl) (owS_le (by decide)) (by decide))
  (c_one (s_up (s_app1 (i := 7) (pv 7) (x_var (pv 11) rfl) rfl) (owS_le (by decide)) (by decide)))) (c_cut (o1 := owS [7, 8]) c_nil (owS_le (by decide)) (by decide))))))) (owS_le (by decide)) (by decide))) (c_cut (o1 := owS [7, 8]) c_nil (owS_le (by decide)) (by decide))))) (owS_le (by decide)) (by decide))
  (c_cut (o1 := owS []) (c_cons (o1 := owS []) (c_if (t_cmp y_le n_le b_le (w_of (x_b1 v_len n_len rfl (Y.free 3) hv_len (w_of (x_var (pv 7) rfl)))) (w_of (x_var (pv 5) rfl)) rfl) (c_one (s_up (s_ret x_bl) (owS_le (by decide)) (by decide))) (c_cut (o1 := owS []) c_nil (owS_le (by decide)) (by decide)))
  (c_cons (o1 := owS []) (s_up (s_for T.po T.calm (i_rng1 rfl (Y.free 11) (x_b2 (v_min2 T.calm) n_min2 rfl (Y.free 12) hv_min (w_of x_int) (w_of (x_bin y_fdiv n_fdiv (w_of (x_var (pv 5) rfl)) (w_of x_int))))) (g_nm (pg_name (i := 12) T.nd rfl (Or.inl rfl)) rfl) (c_cons (o1 := owS []) (s_up (s_set (ps_set (i := 11) T.nd rfl (Or.inl rfl) (x_var (pv 6) rfl)) rfl) (owS_le (by decide)) (by decide))
  (c_one (s_up (s_for T.po T.calm (i_rng1 rfl (Y.free 11) x_int) (g_nm (pg_name (i := 9) T.nd rfl (Or.inl rfl)) rfl) (c_cons (o1 := owS []) (s_up (s_set (ps_set (i := 11) T.nd rfl (Or.inl rfl) (x_own1 T (c_law_both Y) (by decide) rfl (xa_cons (x_var (pv 1) rfl) (xa_cons (x_var (pv 2) rfl) (xa_cons (x_var (pv 3) rfl) (xa_cons (x_var (pv 11) rfl) (xa_cons (x_own1 T (c_law_pick Y) (by decide) rfl (xa_cons (x_var (pv 0) rfl) (xa_cons (x_bin y_shl n_shl (w_of x_int) (w_of (x_var (pv 1) rfl))) xa_nil))) xa_nil))))))) rfl) (owS_le (by decide)) (by decide))
  (c_one (c_if (t_isN (w_of (x_var (pv 11) rfl))) (c_one (s_up (s_ret x_bl) (owS_le (by decide)) (by decide))) (c_cut (o1 := owS []) c_nil (owS_le (by decide)) (by decide)))))) (owS_le (by decide)) (by decide))))) (owS_le (by decide)) (by decide))
  (c_one (s_up (s_ret x_bl) (owS_le (by decide)) (by decide))))) (owS_le (by decide)) (by decide)))))))))
theorem S_carry_count : FnScope N_carry_count ["row"] sc_carry_count := ⟨rfl, rfl, rfl, by decide +kernel, rfl, by decide +kernel, by decide +kernel⟩
theorem c_carry_count (Y : Fs P w K mg) : CallOk P w K mg base 1 "carry_count" d_carry_count ["row"] 1 m_carry_count :=
  def_ok (d := d_carry_count) (N := N_carry_count) (ps := ["row"]) (p := 1) (m := b_carry_count) (k := 0) (ow := ow_carry_count) (Y.def_ 20) (Y.glo 36) S_carry_count rfl rfl (by decide) (fun _ _ _ _ _ _ us hl => match us, hl with | [_], _ => rfl) (fun cdv A outer s H E T => (ss_one (s_ret (x_b1 v_len n_len rfl (Y.free 3) hv_len (w_of (e_of (f_lc (own := [("deed", 1)]) T (i_gr (i_seq (x_attr (att_ok (Y.more 1)) (w_of (x_var (pv 0) rfl))))) (blkOk_by (N := N_carry_count) (sc := sc_carry_count) (own := [("deed", 1)]) (by decide +kernel)) (fun _ _ _ _ _ T1 => (g_nm (pg_name (i := 1) T1.nd rfl (Or.inl rfl)) rfl)) (fun _ _ _ _ _ T1 => (ts_one (t_cmp T1.inn n_in b_in (w_of (x_idx T1.ix (w_of (x_var (pv 1) rfl)) (w_of x_int))) (w_of (x_gtup (y := "CARRIES") (ds := tup_CARRIES) rfl rfl (Y.glo 15) (Y.more 5) rfl)) rfl))) (fun _ _ _ _ _ T1 => (x_var (pv 1) rfl)) (by decide))))))))
theorem S_PlainMaker_init : FnScope N_PlainMaker_init ["self", "inputs"] sc_PlainMaker_init := ⟨rfl, rfl, rfl, by decide +kernel, rfl, by decide +kernel, by decide +kernel⟩
theorem c_PlainMaker (Y : Fs P w K mg) : MakeN P w K mg base 1 "PlainMaker" 2 m_PlainMaker :=
  cls_okN (name := "__init__") (qual := "PlainMaker.__init__") (params := defArgs st_PlainMaker_init) (body := defBody st_PlainMaker_init) (scope := sc_PlainMaker_init) (f := He.ma K (ca K "PlainMaker") "__init__") (N := N_PlainMaker_init) (p := 2) (m := b_PlainMaker_init) (k := 0) (ow := ow_PlainMaker_init) (Y.def_ 21) (Y.glo 37) (Y.mkr 38 (x := "PlainMaker")) S_PlainMaker_init rfl rfl rfl (by decide) (by decide) (fun _ _ _ _ _ _ us hl => match us, hl with | [_, _], _ => rfl) (fun cdv A outer s H E T => (ss_cons (s_setF (att_ok (Y.more 7)) (ps_fld (pv 0) (x_var (pv 1) rfl) rfl) rfl)
  (ss_cons (s_setFN (att_ok (Y.more 6)) (ps_fld (pv 0) (f_lst xa_nil) rfl) rfl)
  (ss_cons (s_setF (att_ok (Y.more 8)) (ps_fld (pv 0) x_non rfl) rfl)
  (ss_one (s_setF (att_ok (Y.more 9)) (ps_fld (pv 0) x_non rfl) rfl))))))
theorem S_PlainMaker_put : FnScope N_PlainMaker_put ["self", "deed"] sc_PlainMaker_put := ⟨rfl, rfl, rfl, by decide +kernel, rfl, by decide +kernel, by decide +kernel⟩
theorem c_PlainMaker_put (Y : Fs P w K mg) : MethL P w K mg base 1 "PlainMaker" "put" 2 m_PlainMaker_put :=
  meth_defL (d := d_PlainMaker_put) (N := N_PlainMaker_put) (ps := ["self", "deed"]) (p := 2) (m := b_PlainMaker_put) (k := 0) (ow := ow_PlainMaker_put) (oN := owS [0]) (oB := owS [0]) (Y.def_ 22) (Y.cls 39) (Y.meth 40) S_PlainMaker_put rfl rfl rfl rfl (by decide) (fun _ _ _ _ _ _ us hl => match us, hl with | [_, _], _ => rfl) (fun cdv A outer s H E T => (c_cons (o1 := owS [0]) (s_up (s_appF1 (i := 0) (att_ok (Y.more 6) _ (List.mem_singleton.mpr rfl)) (pv 0) (x_var (pv 1) rfl) rfl (by decide)) (owS_le (by decide)) (by decide))
  (c_one (s_up (s_retL (x_up (x_bin y_sub n_sub (w_of (x_bin y_add n_add (w_of (x_attr (att_ok (Y.more 7)) (x_own (pv 0)))) (w_of (x_b1 v_len n_len rfl (Y.free 3) hv_len (x_attrW (att_ok (Y.more 6)) (x_own (pv 0))))))) (w_of x_int))) rfl) (owS_le (by decide)) (by decide)))))
theorem S_PlainMaker_both_of : FnScope N_PlainMaker_both_of ["self", "one", "other"] sc_PlainMaker_both_of := ⟨rfl, rfl, rfl, by decide +kernel, rfl, by decide +kernel, by decide +kernel⟩
theorem c_PlainMaker_both_of (Y : Fs P w K mg) : MethL P w K mg base 2 "PlainMaker" "both_of" 3 m_PlainMaker_both_of :=
  meth_defL (d := d_PlainMaker_both_of) (N := N_PlainMaker_both_of) (ps := ["self", "one", "other"]) (p := 3) (m := b_PlainMaker_both_of) (k := 1) (ow := ow_PlainMaker_both_of) (oN := owS [0]) (oB := owS [0]) (Y.def_ 23) (Y.cls 39) (Y.meth 41) S_PlainMaker_both_of rfl rfl rfl rfl (by decide) (fun _ _ _ _ _ _ us hl => match us, hl with | [_, _, _], _ => rfl) (fun cdv A outer s H E T => (c_one (s_up (s_retL (x_lendM (mn := "put") rfl T (c_PlainMaker_put Y) (by decide) (fun _ _ _ _ _ h => h) (pv 0) rfl (xx_cons (x_up (x_tup (xa_cons (x_str (s := "and")) (xa_cons (x_var (pv 1) rfl) (xa_cons (x_var (pv 2) rfl) xa_nil))))) xx_nil)) rfl) (owS_le (by decide)) (by decide))))
theorem S_PlainMaker_opposite : FnScope N_PlainMaker_opposite ["self", "one"] sc_PlainMaker_opposite := ⟨rfl, rfl, rfl, by decide +kernel, rfl, by decide +kernel, by decide +kernel⟩
theorem c_PlainMaker_opposite (Y : Fs P w K mg) : MethL P w K mg base 2 "PlainMaker" "opposite" 2 m_PlainMaker_opposite :=
  meth_defL (d := d_PlainMaker_opposite) (N := N_PlainMaker_opposite) (ps := ["self", "one"]) (p := 2) (m := b_PlainMaker_opposite) (k := 1) (ow := ow_PlainMaker_opposite) (oN := owS [0]) (oB := owS [0]) (Y.def_ 24) (Y.cls 39) (Y.meth 42) S_PlainMaker_opposite rfl rfl rfl rfl (by decide) (fun _ _ _ _ _ _ us hl => match us, hl with | [_, _], _ => rfl) (fun cdv A outer s H E T => (c_one (s_up (s_retL (x_lendM (mn := "put") rfl T (c_PlainMaker_put Y) (by decide) (fun _ _ _ _ _ h => h) (pv 0) rfl (xx_cons (x_up (x_tup (xa_cons (x_str (s := "not")) (xa_cons (x_var (pv 1) rfl) xa_nil)))) xx_nil)) rfl) (owS_le (by decide)) (by decide))))
theorem S_PlainMaker_sum_of : FnScope N_PlainMaker_sum_of ["self", "one", "other"] sc_PlainMaker_sum_of := ⟨rfl, rfl, rfl, by decide +kernel, rfl, by decide +kernel, by decide +kernel⟩
theorem c_PlainMaker_sum_of (Y : Fs P w K mg) : MethL P w K mg base 2 "PlainMaker" "sum_of" 3 m_PlainMaker_sum_of :=
  meth_defL (d := d_PlainMaker_sum_of) (N := N_PlainMaker_sum_of) (ps := ["self", "one", "other"]) (p := 3) (m := b_PlainMaker_sum_of) (k := 1) (ow := ow_PlainMaker_sum_of) (oN := owS [0]) (oB := owS [0]) (Y.def_ 25) (Y.cls 39) (Y.meth 43) S_PlainMaker_sum_of rfl rfl rfl rfl (by decide) (fun _ _ _ _ _ _ us hl => match us, hl with | [_, _, _], _ => rfl) (fun cdv A outer s H E T => (c_one (s_up (s_retL (x_lendM (mn := "put") rfl T (c_PlainMaker_put Y) (by decide) (fun _ _ _ _ _ h => h) (pv 0) rfl (xx_cons (x_up (x_tup (xa_cons (x_str (s := "add")) (xa_cons (x_var (pv 1) rfl) (xa_cons (x_var (pv 2) rfl) xa_nil))))) xx_nil)) rfl) (owS_le (by decide)) (by decide))))
theorem S_PlainMaker_difference : FnScope N_PlainMaker_difference ["self", "one", "other"] sc_PlainMaker_difference := ⟨rfl, rfl, rfl, by decide +kernel, rfl, by decide +kernel, by decide +kernel⟩
theorem c_PlainMaker_difference (Y : Fs P w K mg) : MethL P w K mg base 3 "PlainMaker" "difference" 3 m_PlainMaker_difference :=
  meth_defL (d := d_PlainMaker_difference) (N := N_PlainMaker_difference) (ps := ["self", "one", "other"]) (p := 3) (m := b_PlainMaker_difference) (k := 2) (ow := ow_PlainMaker_difference) (oN := owS [0]) (oB := owS [0]) (Y.def_ 26) (Y.cls 39) (Y.meth 44) S_PlainMaker_difference rfl rfl rfl rfl (by decide) (fun _ _ _ _ _ _ us hl => match us, hl with | [_, _, _], _ => rfl) (fun cdv A outer s H E T => (c_one (s_up (s_retL (x_lendM (mn := "opposite") rfl T (c_PlainMaker_opposite Y) (by decide) (fun _ _ _ _ _ h => h) (pv 0) rfl (xx_cons (x_lendM (mn := "sum_of") rfl T (c_PlainMaker_sum_of Y) (by decide) (fun _ _ _ _ _ h => h) (pv 0) rfl (xx_cons (x_lendM (mn := "opposite") rfl T (c_PlainMaker_opposite Y) (by decide) (fun _ _ _ _ _ h => h) (pv 0) rfl (xx_cons (x_up (x_var (pv 1) rfl)) xx_nil)) (xx_cons (x_up (x_var (pv 2) rfl)) xx_nil))) xx_nil)) rfl) (owS_le (by decide)) (by decide))))
theorem S_PlainMaker_either_of : FnScope N_PlainMaker_either_of ["self", "one", "other"] sc_PlainMaker_either_of := ⟨rfl, rfl, rfl, by decide +kernel, rfl, by decide +kernel, by decide +kernel⟩
theorem c_PlainMaker_either_of (Y : Fs P w K mg) : MethL P w K mg base 3 "PlainMaker" "either_of" 3 m_PlainMaker_either_of :=
  meth_defL (d := d_PlainMaker_either_of) (N := N_PlainMaker_either_of) (ps := ["self", "one", "other"]) (p := 3) (m := b_PlainMaker_either_of) (k := 2) (ow := ow_PlainMaker_either_of) (oN := owS [0]) (oB := owS [0]) (Y.def_ 27) (Y.cls 39) (Y.meth 45) S_PlainMaker_either_of rfl rfl rfl rfl (by decide) (fun _ _ _ _ _ _ us hl => match us, hl with | [_, _, _], _ => rfl) (fun cdv A outer s H E T => (c_one (s_up (s_retL (x_lendM (mn := "opposite") rfl T (c_PlainMaker_opposite Y) (by decide) (fun _ _ _ _ _ h => h) (pv 0) rfl (xx_cons (x_lendM (mn := "both_of") rfl T (c_PlainMaker_both_of Y) (by decide) (fun _ _ _ _ _ h => h) (pv 0) rfl (xx_cons (x_lendM (mn := "opposite") rfl T (c_PlainMaker_opposite Y) (by decide) (fun _ _ _ _ _ h => h) (pv 0) rfl (xx_cons (x_up (x_var (pv 1) rfl)) xx_nil)) (xx_cons (x_lendM (mn := "opposite") rfl T (c_PlainMaker_opposite Y) (by decide) (fun _ _ _ _ _ h => h) (pv 0) rfl (xx_cons (x_up (x_var (pv 2) rfl)) xx_nil)) xx_nil))) xx_nil)) rfl) (owS_le (by decide)) (by decide))))
theorem S_PlainMaker_just_one : FnScope N_PlainMaker_just_one ["self", "one", "other"] sc_PlainMaker_just_one := ⟨rfl, rfl, rfl, by decide +kernel, rfl, by decide +kernel, by decide +kernel⟩
theorem c_PlainMaker_just_one (Y : Fs P w K mg) : MethL P w K mg base 4 "PlainMaker" "just_one" 3 m_PlainMaker_just_one :=
  meth_defL (d := d_PlainMaker_just_one) (N := N_PlainMaker_just_one) (ps := ["self", "one", "other"]) (p := 3) (m := b_PlainMaker_just_one) (k := 3) (ow := ow_PlainMaker_just_one) (oN := owS [0]) (oB := owS [0]) (Y.def_ 28) (Y.cls 39) (Y.meth 46) S_PlainMaker_just_one rfl rfl rfl rfl (by decide) (fun _ _ _ _ _ _ us hl => match us, hl with | [_, _, _], _ => rfl) (fun cdv A outer s H E T => (c_one (s_up (s_retL (x_lendM (mn := "both_of") rfl T (c_PlainMaker_both_of Y) (by decide) (fun _ _ _ _ _ h => h) (pv 0) rfl (xx_cons (x_lendM (mn := "either_of") rfl T (c_PlainMaker_either_of Y) (by decide) (fun _ _ _ _ _ h => h) (pv 0) rfl (xx_cons (x_up (x_var (pv 1) rfl)) (xx_cons (x_up (x_var (pv 2) rfl)) xx_nil))) (xx_cons (x_lendM (mn := "opposite") rfl T (c_PlainMaker_opposite Y) (by decide) (fun _ _ _ _ _ h => h) (pv 0) rfl (xx_cons (x_lendM (mn := "both_of") rfl T (c_PlainMaker_both_of Y) (by decide) (fun _ _ _ _ _ h => h) (pv 0) rfl (xx_cons (x_up (x_var (pv 1) rfl)) (xx_cons (x_up (x_var (pv 2) rfl)) xx_nil))) xx_nil)) xx_nil))) rfl) (owS_le (by decide)) (by decide))))
theorem S_PlainMaker_zero : FnScope N_PlainMaker_zero ["self"] sc_PlainMaker_zero := ⟨rfl, rfl, rfl, by decide +kernel, rfl, by decide +kernel, by decide +kernel⟩
theorem c_PlainMaker_zero (Y : Fs P w K mg) : MethL P w K mg base 3 "PlainMaker" "zero" 1 m_PlainMaker_zero :=
  meth_defL (d := d_PlainMaker_zero) (N := N_PlainMaker_zero) (ps := ["self"]) (p := 1) (m := b_PlainMaker_zero) (k := 2) (ow := ow_PlainMaker_zero) (oN := owS [0]) (oB := owS [0]) (Y.def_ 29) (Y.cls 39) (Y.meth 47) S_PlainMaker_zero rfl rfl rfl rfl (by decide) (fun _ _ _ _ _ _ us hl => match us, hl with | [_], _ => rfl) (fun cdv A outer s H E T => (c_cons (o1 := owS [0]) (c_if (t_isN (w_of (x_attr (att_ok (Y.more 8)) (x_own (pv 0))))) (c_one (s_up (s_setFX (att_ok (Y.more 8)) (ps_fld (pv 0) (x_lendM (mn := "both_of") rfl T (c_PlainMaker_both_of Y) (by decide) (fun _ _ _ _ _ h => h) (pv 0) rfl (xx_cons (x_up x_int) (xx_cons (x_lendM (mn := "opposite") rfl T (c_PlainMaker_opposite Y) (by decide) (fun _ _ _ _ _ h => h) (pv 0) rfl (xx_cons (x_up x_int) xx_nil)) xx_nil))) rfl) rfl) (owS_le (by decide)) (by decide))) (c_cut (o1 := owS [0]) c_nil (owS_le (by decide)) (by decide)))
  (c_one (s_up (s_retL (x_up (x_attr (att_ok (Y.more 8)) (x_own (pv 0)))) rfl) (owS_le (by decide)) (by decide)))))
theorem S_PlainMaker_ones : FnScope N_PlainMaker_ones ["self"] sc_PlainMaker_ones := ⟨rfl, rfl, rfl, by decide +kernel, rfl, by decide +kernel, by decide +kernel⟩
theorem c_PlainMaker_ones (Y : Fs P w K mg) : MethL P w K mg base 4 "PlainMaker" "ones" 1 m_PlainMaker_ones :=
  meth_defL (d := d_PlainMaker_ones) (N := N_PlainMaker_ones) (ps := ["self"]) (p := 1) (m := b_PlainMaker_ones) (k := 3) (ow := ow_PlainMaker_ones) (oN := owS [0]) (oB := owS [0]) (Y.def_ 30) (Y.cls 39) (Y.meth 48) S_PlainMaker_ones rfl rfl rfl rfl (by decide) (fun _ _ _ _ _ _ us hl => match us, hl with | [_], _ => rfl) (fun cdv A outer s H E T => (c_cons (o1 := owS [0]) (c_if (t_isN (w_of (x_attr (att_ok (Y.more 9)) (x_own (pv 0))))) (c_one (s_up (s_setFX (att_ok (Y.more 9)) (ps_fld (pv 0) (x_lendM (mn := "opposite") rfl T (c_PlainMaker_opposite Y) (by decide) (fun _ _ _ _ _ h => h) (pv 0) rfl (xx_cons (x_lendM0 (mn := "zero") rfl T (c_PlainMaker_zero Y) (by decide) (fun _ _ _ _ _ h => h) (pv 0) rfl) xx_nil)) rfl) rfl) (owS_le (by decide)) (by decide))) (c_cut (o1 := owS [0]) c_nil (owS_le (by decide)) (by decide)))
  (c_one (s_up (s_retL (x_up (x_attr (att_ok (Y.more 9)) (x_own (pv 0)))) rfl) (owS_le (by decide)) (by decide)))))
theorem S_PlainMaker_made : FnScope N_PlainMaker_made ["self", "name", "numbers"] sc_PlainMaker_made := ⟨rfl, rfl, rfl, by decide +kernel, rfl, by decide +kernel, by decide +kernel⟩
theorem c_PlainMaker_made (Y : Fs P w K mg) : MethL P w K mg base 5 "PlainMaker" "made" 3 m_PlainMaker_made :=
  meth_defL (d := d_PlainMaker_made) (N := N_PlainMaker_made) (ps := ["self", "name", "numbers"]) (p := 3) (m := b_PlainMaker_made) (k := 4) (ow := ow_PlainMaker_made) (oN := owS [0]) (oB := owS [0]) (Y.def_ 31) (Y.cls 39) (Y.meth 49) S_PlainMaker_made rfl rfl rfl rfl (by decide) (fun _ _ _ _ _ _ us hl => match us, hl with | [_, _, _], _ => rfl) (fun cdv A outer s H E T => (c_cons (o1 := owS [0]) (c_if (t_cmp T.eq n_eq b_eq (w_of (x_var (pv 1) rfl)) (w_of (x_str (s := "zero"))) rfl) (c_one (s_up (s_retL (x_lendM0 (mn := "zero") rfl T (c_PlainMaker_zero Y) (by decide) (fun _ _ _ _ _ h => h) (pv 0) rfl) rfl) (owS_le (by decide)) (by decide))) (c_cut (o1 := owS [0]) c_nil (owS_le (by decide)) (by decide)))
  (c_cons (o1 := owS [0]) (c_if (t_cmp T.eq n_eq b_eq (w_of (x_var (pv 1) rfl)) (w_of (x_str (s := "ones"))) rfl) (c_one (s_up (s_retL (x_lendM0 (mn := "ones") rfl T (c_PlainMaker_ones Y) (by decide) (fun _ _ _ _ _ h => h) (pv 0) rfl) rfl) (owS_le (by decide)) (by decide))) (c_cut (o1 := owS [0]) c_nil (owS_le (by decide)) (by decide)))
  (c_cons (o1 := owS [0]) (s_up (s_par2 (i := 3) (j := 4) T rfl rfl (by decide) rfl rfl rfl rfl (xa_cons (x_idx T.ix (w_of (x_var (pv 2) rfl)) (w_of x_int)) (xa_cons (x_idx T.ix (w_of (x_var (pv 2) rfl)) (w_of (x_un y_neg n_neg (w_of x_int)))) xa_nil))) (owS_le (by decide)) (by decide))
  (c_cons (o1 := owS [0]) (c_if (t_cmp T.eq n_eq b_eq (w_of (x_var (pv 1) rfl)) (w_of (x_str (s := "not"))) rfl) (c_one (s_up (s_retL (x_lendM (mn := "opposite") rfl T (c_PlainMaker_opposite Y) (by decide) (fun _ _ _ _ _ h => h) (pv 0) rfl (xx_cons (x_up (x_var (pv 3) rfl)) xx_nil)) rfl) (owS_le (by decide)) (by decide))) (c_cut (o1 := owS [0]) c_nil (owS_le (by decide)) (by decide)))
  (c_cons (o1 := owS [0]) (c_if (t_cmp T.eq n_eq b_eq (w_of (x_var (pv 1) rfl)) (w_of (x_str (s := "and"))) rfl) (c_one (s_up (s_retL (x_lendM (mn := "both_of") rfl T (c_PlainMaker_both_of Y) (by decide) (fun _ _ _ _ _ h => h) (pv 0) rfl (xx_cons (x_up (x_var (pv 3) rfl)) (xx_cons (x_up (x_var (pv 4) rfl)) xx_nil))) rfl) (owS_le (by decide)) (by decide))) (c_cut (o1 := owS [0]) c_nil (owS_le (by decide)) (by decide)))
  (c_cons (o1 := owS [0]) (c_if (t_cmp T.eq n_eq b_eq (w_of (x_var (pv 1) rfl)) (w_of (x_str (s := "or"))) rfl) (c_one (s_up (s_retL (x_lendM (mn := "either_of") rfl T (c_PlainMaker_either_of Y) (by decide) (fun _ _ _ _ _ h => h) (pv 0) rfl (xx_cons (x_up (x_var (pv 3) rfl)) (xx_cons (x_up (x_var (pv 4) rfl)) xx_nil))) rfl) (owS_le (by decide)) (by decide))) (c_cut (o1 := owS [0]) c_nil (owS_le (by decide)) (by decide)))
  (c_cons (o1 := owS [0]) (c_if (t_cmp T.eq n_eq b_eq (w_of (x_var (pv 1) rfl)) (w_of (x_str (s := "xor"))) rfl) (c_one (s_up (s_retL (x_lendM (mn := "just_one") rfl T (c_PlainMaker_just_one Y) (by decide) (fun _ _ _ _ _ h => h) (pv 0) rfl (xx_cons (x_up (x_var (pv 3) rfl)) (xx_cons (x_up (x_var (pv 4) rfl)) xx_nil))) rfl) (owS_le (by decide)) (by decide))) (c_cut (o1 := owS [0]) c_nil (owS_le (by decide)) (by decide)))
  (c_cons (o1 := owS [0]) (c_if (t_cmp T.eq n_eq b_eq (w_of (x_var (pv 1) rfl)) (w_of (x_str (s := "sub"))) rfl) (c_one (s_up (s_retL (x_lendM (mn := "difference") rfl T (c_PlainMaker_difference Y) (by decide) (fun _ _ _ _ _ h => h) (pv 0) rfl (xx_cons (x_up (x_var (pv 3) rfl)) (xx_cons (x_up (x_var (pv 4) rfl)) xx_nil))) rfl) (owS_le (by decide)) (by decide))) (c_cut (o1 := owS [0]) c_nil (owS_le (by decide)) (by decide)))
  (c_cons (o1 := owS [0]) (c_if (t_cmp T.eq n_eq b_eq (w_of (x_var (pv 1) rfl)) (w_of (x_str (s := "minus"))) rfl) (c_one (s_up (s_retL (x_lendM (mn := "opposite") rfl T (c_PlainMaker_opposite Y) (by decide) (fun _ _ _ _ _ h => h) (pv 0) rfl (xx_cons (x_lendM (mn := "sum_of") rfl T (c_PlainMaker_sum_of Y) (by decide) (fun _ _ _ _ _ h => h) (pv 0) rfl (xx_cons (x_up (x_var (pv 3) rfl)) (xx_cons (x_lendM0 (mn := "ones") rfl T (c_PlainMaker_ones Y) (by decide) (fun _ _ _ _ _ h => h) (pv 0) rfl) xx_nil))) xx_nil)) rfl) (owS_le (by decide)) (by decide))) (c_cut (o1 := owS [0]) c_nil (owS_le (by decide)) (by decide)))
  (c_one (s_up (s_retL (x_lendM (mn := "sum_of") rfl T (c_PlainMaker_sum_of Y) (by decide) (fun _ _ _ _ _ h => h) (pv 0) rfl (xx_cons (x_up (x_var (pv 3) rfl)) (xx_cons (x_up (x_var (pv 4) rfl)) xx_nil))) rfl) (owS_le (by decide)) (by decide)))))))))))))
theorem S_plain_row : FnScope N_plain_row ["row"] sc_plain_row := ⟨rfl, rfl, rfl, by decide +kernel, rfl, by decide +kernel, by decide +kernel⟩
theorem c_plain_row (Y : Fs P w K mg) : CallOk P w K mg base 8 "plain_row" d_plain_row ["row"] 1 m_plain_row :=
  def_ok (d := d_plain_row) (N := N_plain_row) (ps := ["row"]) (p := 1) (m := b_plain_row) (k := 7) (ow := ow_plain_row) (oN := owS []) (oB := owS []) (Y.def_ 32) (Y.glo 50) S_plain_row rfl rfl (by decide) (fun _ _ _ _ _ _ us hl => match us, hl with | [_], _ => rfl) (fun cdv A outer s H E T => (c_cons (o1 := owS [1]) (c_ownN (ps_set (i := 1) T.nd rfl (Or.inl rfl) (f_new (cls := "PlainMaker") T (c_PlainMaker Y) (by decide) rfl (xa_cons (x_attr (att_ok (Y.more 0)) (w_of (x_var (pv 0) rfl))) xa_nil))) rfl (owS_add (by decide)))
  (c_cons (o1 := owS [1, 2]) (c_own (ps_set (i := 2) T.nd rfl (Or.inr rfl) (f_lrng1 T.calm rfl (Y.free 2) rfl (Y.free 11) (x_attr (att_ok (Y.more 0)) (w_of (x_var (pv 0) rfl))))) rfl (owS_add (by decide)))
  (c_cons (o1 := owS [1, 2]) (s_up (s_for T.po T.calm (i_seq (x_attr (att_ok (Y.more 1)) (w_of (x_var (pv 0) rfl)))) (g_nm (pg_name (i := 3) T.nd rfl (Or.inl rfl)) rfl) (c_one (c_if (t_cmp T.eq n_eq b_eq (w_of (x_idx T.ix (w_of (x_var (pv 3) rfl)) (w_of x_int))) (w_of (x_str (s := "count"))) rfl) (c_one (s_up (s_app1X (i := 2) (pv 2) (x_lendM (mn := "put") rfl T (c_PlainMaker_put Y) (by decide) (fun _ _ _ _ _ h => h) (pv 1) rfl (xx_cons (x_up (x_tup (xa_star (x_slc (w_of (x_var (pv 3) rfl)) o_none (o_some x_int)) (xa_cons (x_t1 v_tuple n_tuple rfl (Y.free 1) hv_tuple (w_of (e_of (f_lc (own := [("i", 4)]) T (i_gr (i_seq (x_idx T.ix (w_of (x_var (pv 3) rfl)) (w_of x_int)))) (blkOk_by (N := N_plain_row) (sc := sc_plain_row) (own := [("i", 4)]) (by decide +kernel)) (fun _ _ _ _ _ T1 => (g_nm (pg_name (i := 4) T1.nd rfl (Or.inl rfl)) rfl)) (fun _ _ _ _ _ T1 => ts_nil) (fun _ _ _ _ _ T1 => (x_idx T1.ix (x_own (pv 2)) (w_of (x_var (pv 4) rfl)))) (by decide))))) xa_nil)))) xx_nil)) rfl) (owS_le (by decide)) (by decide))) (c_one (s_up (s_app1X (i := 2) (pv 2) (x_lendM (mn := "made") rfl T (c_PlainMaker_made Y) (by decide) (fun _ _ _ _ _ h => h) (pv 1) rfl (xx_cons (x_up (x_idx T.ix (w_of (x_var (pv 3) rfl)) (w_of x_int))) (xx_cons (x_up (e_of (f_lc (own := [("i", 4)]) T (i_gr (i_seq (x_slc (w_of (x_var (pv 3) rfl)) (o_some x_int) o_none))) (blkOk_by (N := N_plain_row) (sc := sc_plain_row) (own := [("i", 4)]) (by decide +kernel)) (fun _ _ _ _ _ T2 => (g_nm (pg_name (i := 4) T2.nd rfl (Or.inl rfl)) rfl)) (fun _ _ _ _ _ T2 => ts_nil) (fun _ _ _ _ _ T2 => (x_idx T2.ix (x_own (pv 2)) (w_of (x_var (pv 4) rfl)))) (by decide)))) xx_nil))) rfl) (owS_le (by decide)) (by decide)))))) (owS_le (by decide)) (by decide))
  (c_cut (o1 := owS []) (c_one (s_up (s_ret (x_new (cls := "Row") T (c_Row Y) (by decide) rfl (xa_cons (x_attr (att_ok (Y.more 0)) (w_of (x_var (pv 0) rfl))) (xa_cons (x_attrE (att_ok (Y.more 6)) (x_var (pv 1) rfl)) (xa_cons (x_idx T.ix (w_of (x_var (pv 2) rfl)) (w_of (x_attr (att_ok (Y.more 2)) (w_of (x_var (pv 0) rfl))))) xa_nil))))) (owS_le (by decide)) (by decide))) (owS_le (by decide)) (by decide))))))
theorem S__law_ask : FnScope N__law_ask ["pool"] sc__law_ask := ⟨rfl, rfl, rfl, by decide +kernel, rfl, by decide +kernel, by decide +kernel⟩
theorem c_law_ask (Y : Fs P w K mg) : CallOk P w K mg base 9 "_law_ask" d__law_ask ["pool"] 1 m_law_ask :=
  def_ok (d := d__law_ask) (N := N__law_ask) (ps := ["pool"]) (p := 1) (m := b__law_ask) (k := 8) (ow := ow__law_ask) (Y.def_ 33) (Y.glo 51) S__law_ask rfl rfl (by decide) (fun _ _ _ _ _ _ us hl => match us, hl with | [_], _ => rfl) (fun cdv A outer s H E T => (ss_cons (s_set (ps_set (i := 1) T.nd rfl (Or.inl rfl) (x_idx T.ix (w_of (x_tup (xa_cons x_int (xa_cons x_int (xa_cons x_int (xa_cons x_int (xa_cons x_int (xa_cons x_int xa_nil)))))))) (w_of (x_own1 T (c_law_pick Y) (by decide) rfl (xa_cons (x_var (pv 0) rfl) (xa_cons x_int xa_nil)))))) rfl)
  (ss_cons (s_set (ps_set (i := 2) T.nd rfl (Or.inl rfl) (x_own1 T (c_law_pick Y) (by decide) rfl (xa_cons (x_var (pv 0) rfl) (xa_cons x_int xa_nil)))) rfl)
  (ss_cons (s_if (t_cmp T.eq n_eq b_eq (w_of (x_own1 T (c_law_pick Y) (by decide) rfl (xa_cons (x_var (pv 0) rfl) (xa_cons x_int xa_nil)))) (w_of x_int) rfl) (ss_one (s_set (ps_set (i := 2) T.nd rfl (Or.inl rfl) (x_bin y_add n_add (w_of x_int) (w_of (x_own1 T (c_law_pick Y) (by decide) rfl (xa_cons (x_var (pv 0) rfl) (xa_cons x_int xa_nil)))))) rfl)) ss_nil)
  (ss_cons (s_set (ps_set (i := 3) T.nd rfl (Or.inl rfl) (x_own1 T (c_law_deeds Y) (by decide) rfl (xa_cons (x_var (pv 0) rfl) (xa_cons (x_var (pv 1) rfl) (xa_cons (x_var (pv 2) rfl) (xa_cons x_int xa_nil)))))) rfl)
  (ss_cons (s_set (ps_set (i := 4) T.nd rfl (Or.inl rfl) (x_bin y_sub n_sub (w_of (x_bin y_add n_add (w_of (x_var (pv 1) rfl)) (w_of (x_var (pv 2) rfl)))) (w_of x_int))) rfl)
  (ss_cons (s_if (t_cmp T.eq n_eq b_eq (w_of (x_own1 T (c_law_pick Y) (by decide) rfl (xa_cons (x_var (pv 0) rfl) (xa_cons x_int xa_nil)))) (w_of x_int) rfl) (ss_one (s_set (ps_set (i := 4) T.nd rfl (Or.inl rfl) (x_own1 T (c_law_pick Y) (by decide) rfl (xa_cons (x_var (pv 0) rfl) (xa_cons (x_bin y_add n_add (w_of (x_var (pv 1) rfl)) (w_of (x_var (pv 2) rfl))) xa_nil)))) rfl)) ss_nil)
  (ss_cons (s_set (ps_set (i := 5) T.nd rfl (Or.inl rfl) (x_t1 v_tuple n_tuple rfl (Y.free 1) hv_tuple (w_of (x_var (pv 3) rfl)))) rfl)
  (ss_cons (s_if (t_cmp T.eq n_eq b_eq (w_of (x_own1 T (c_law_pick Y) (by decide) rfl (xa_cons (x_var (pv 0) rfl) (xa_cons x_int xa_nil)))) (w_of x_int) rfl) (ss_one (s_set (ps_set (i := 5) T.nd rfl (Or.inl rfl) (e_of (f_list rfl rfl (Y.free 2) (w_of (x_var (pv 3) rfl))))) rfl)) ss_nil)
  (ss_cons (s_set (ps_set (i := 6) T.nd rfl (Or.inl rfl) (x_new (cls := "Row") T (c_Row Y) (by decide) rfl (xa_cons (x_var (pv 1) rfl) (xa_cons (x_var (pv 5) rfl) (xa_cons (x_var (pv 4) rfl) xa_nil))))) rfl)
  (ss_cons (s_set (ps_set (i := 7) T.nd rfl (Or.inl rfl) (x_own1 T (c_plain_row Y) (by decide) rfl (xa_cons (x_var (pv 6) rfl) xa_nil))) rfl)
  (ss_cons (s_if (t_not (t_tst (w_of (x_own1 T (c_law_plain Y) (by decide) rfl (xa_cons (x_var (pv 7) rfl) (xa_cons (x_var (pv 1) rfl) (xa_cons (x_var (pv 3) rfl) xa_nil))))) (by intro _; rfl))) (ss_one (s_ret x_bl)) ss_nil)
  (ss_cons (s_if (PW.pt (t_or (t_cmp T.ne n_ne b_ne (w_of (x_attr (att_ok (Y.more 0)) (w_of (x_var (pv 6) rfl)))) (w_of (x_var (pv 1) rfl)) rfl) (t_or (t_cmp T.ne n_ne b_ne (w_of (x_attr (att_ok (Y.more 1)) (w_of (x_var (pv 6) rfl)))) (w_of (x_t1 v_tuple n_tuple rfl (Y.free 1) hv_tuple (w_of (x_var (pv 3) rfl)))) rfl) (t_or (t_cmp T.ne n_ne b_ne (w_of (x_attr (att_ok (Y.more 2)) (w_of (x_var (pv 6) rfl)))) (w_of (x_var (pv 4) rfl)) rfl) (t_or1 (t_cmp T.ne n_ne b_ne (w_of (e_of (f_list rfl rfl (Y.free 2) (w_of (x_var (pv 5) rfl))))) (w_of (x_var (pv 3) rfl)) rfl)))))) (ss_one (s_ret x_bl)) ss_nil)
  (ss_cons (s_set (ps_set (i := 8) T.nd rfl (Or.inl rfl) (x_b1 v_len n_len rfl (Y.free 3) hv_len (w_of (e_of (f_lc (own := [("deed", 11)]) T (i_gr (i_seq (x_var (pv 3) rfl))) (blkOk_by (N := N__law_ask) (sc := sc__law_ask) (own := [("deed", 11)]) (by decide +kernel)) (fun _ _ _ _ _ T1 => (g_nm (pg_name (i := 11) T1.nd rfl (Or.inl rfl)) rfl)) (fun _ _ _ _ _ T1 => (ts_one (t_cmp T1.inn n_in b_in (w_of (x_idx T1.ix (w_of (x_var (pv 11) rfl)) (w_of x_int))) (w_of (x_tup (xa_cons (x_str (s := "shift")) (xa_cons (x_str (s := "minus")) (xa_cons (x_str (s := "add")) (xa_cons (x_str (s := "sub")) xa_nil)))))) rfl))) (fun _ _ _ _ _ T1 => (x_var (pv 11) rfl)) (by decide)))))) rfl)
  (ss_cons (s_set (ps_set (i := 9) T.nd rfl (Or.inl rfl) (x_own1 T (c_carry_count Y) (by decide) rfl (xa_cons (x_var (pv 6) rfl) xa_nil))) rfl)
  (ss_cons (s_if (PW.pt (t_or (t_not (t_tst (w_of (x_own1 T (c_law_number Y) (by decide) rfl (xa_cons (x_var (pv 9) rfl) (xa_cons (x_bin y_add n_add (w_of (x_var (pv 8) rfl)) (w_of x_int)) xa_nil)))) (by intro _; rfl))) (t_or1 (t_cmp T.ne n_ne b_ne (w_of (x_var (pv 9) rfl)) (w_of (x_var (pv 8) rfl)) rfl)))) (ss_one (s_ret x_bl)) ss_nil)
  (ss_cons (s_set (ps_set (i := 10) T.nd rfl (Or.inl rfl) (x_own1 T (c_plain_row Y) (by decide) rfl (xa_cons (x_new (cls := "Row") T (c_Row Y) (by decide) rfl (xa_cons (x_var (pv 1) rfl) (xa_cons (e_of (f_list rfl rfl (Y.free 2) (w_of (x_var (pv 3) rfl)))) (xa_cons (x_var (pv 4) rfl) xa_nil)))) xa_nil))) rfl)
  (ss_cons (s_if (PW.pt (t_or (t_not (t_tst (w_of (x_isi1 (cs := CS) (t := (.cls "Row")) rfl (kit_of_b (Y.more 3)) rfl (Y.free 4) (w_of (x_var (pv 10) rfl)) (pe_glob rfl (Y.glo 5) rfl))) (by intro _; rfl))) (t_or1 (t_cmp T.ne n_ne b_ne (w_of (x_attr (att_ok (Y.more 0)) (w_of (x_var (pv 10) rfl)))) (w_of (x_var (pv 1) rfl)) rfl)))) (ss_one (s_ret x_bl)) ss_nil)
  (ss_cons (s_if (PW.pt (t_or (t_cmp T.ne n_ne b_ne (w_of (x_attr (att_ok (Y.more 1)) (w_of (x_var (pv 10) rfl)))) (w_of (x_attr (att_ok (Y.more 1)) (w_of (x_var (pv 7) rfl)))) rfl) (t_or1 (t_cmp T.ne n_ne b_ne (w_of (x_attr (att_ok (Y.more 2)) (w_of (x_var (pv 10) rfl)))) (w_of (x_attr (att_ok (Y.more 2)) (w_of (x_var (pv 7) rfl)))) rfl)))) (ss_one (s_ret x_bl)) ss_nil)
  (ss_one (s_ret (x_own1 T (c_law_same Y) (by decide) rfl (xa_cons (x_var (pv 0) rfl) (xa_cons (x_var (pv 1) rfl) (xa_cons (x_tup (xa_cons (x_var (pv 3) rfl) (xa_cons (x_var (pv 4) rfl) xa_nil))) (xa_cons (x_tup (xa_cons (x_attr (att_ok (Y.more 1)) (w_of (x_var (pv 7) rfl))) (xa_cons (x_attr (att_ok (Y.more 2)) (w_of (x_var (pv 7) rfl))) xa_nil))) xa_nil))))))))))))))))))))))))))
theorem S_law : FnScope N_law ["script"] sc_law := ⟨rfl, rfl, rfl, by decide +kernel, rfl, by decide +kernel, by decide +kernel⟩
theorem law_is (Y : Fs P w K mg) : ∃ fd : FuncData, (∀ (s : Shared) (u : Value), BindsTo s fd ⟨[u], []⟩ [("script", u)]) ∧ ∀ base : Heap, FnOk P w K mg base (L2N.CX P w) 10 (He.ga K "law") fd ["script"] (spM K 1 m_law) :=
  law_ok (qual := "law") (params := defArgs st_law) (body := defBody st_law) (scope := sc_law) (f := He.ga K "law") (N := N_law) (m := b_law) (ow := ow_law) (Y.def_ 34) S_law rfl rfl (fun _ _ _ _ _ _ us hl => match us, hl with | [_], _ => rfl) (fun base cdv A outer s H E T => (ss_cons (s_set (ps_set (i := 1) T.nd rfl (Or.inl rfl) (x_pool (f_lst (xa_cons (e_of (f_lc (own := [("cell", 2)]) T (i_gr (i_seq (x_slc (w_of (x_var (pv 0) rfl)) o_none (o_some x_int)))) (blkOk_by (N := N_law) (sc := sc_law) (own := [("cell", 2)]) (by decide +kernel)) (fun _ _ _ _ _ T1 => (g_nm (pg_name (i := 2) T1.nd rfl (Or.inl rfl)) rfl)) (fun _ _ _ _ _ T1 => ts_nil) (fun _ _ _ _ _ T1 => (x_t1 v_int n_int rfl (Y.free 0) hv_int (w_of (x_var (pv 2) rfl)))) (by decide))) (xa_cons x_int (xa_cons x_int (xa_cons x_int xa_nil))))))) rfl)
  (ss_one (s_thru T fun T2 => (ss_one (s_ret (x_own1 T2 (c_law_ask Y) (by decide) rfl (xa_cons (x_var (pv 1) rfl) xa_nil))))))))
end
theorem ob_eq (s : PySem.W.SharedT) : ob s = hkY.obs s.abs := obsYG_eq (HandSHeadRun.getT_eq s)
end Py
/-! More about mirrors: comprehensions over made lists, enumerate, slices, draws. -/
namespace Py.U
open PySem
def Drawn : List Int → List Int → Prop
  | [], [] => True
  | d :: ds, s :: ss => (0 ≤ d ∧ d < s) ∧ Drawn ds ss
  | _, _ => False
theorem Drawn.snoc : ∀ {ds ss : List Int} {d s : Int}, Drawn ds ss → 0 ≤ d → d < s → Drawn (ds ++ [d]) (ss ++ [s])
  | [], [], _, _, _, h1, h2 => ⟨⟨h1, h2⟩, trivial⟩
  | d :: ds, s :: ss, _, _, h, h1, h2 => ⟨h.1, Drawn.snoc h.2 h1 h2⟩
  | [], _ :: _, _, _, h, _, _ => h.elim
  | _ :: _, [], _, _, h, _, _ => h.elim
theorem Drawn.length : ∀ {ds ss : List Int}, Drawn ds ss → ds.length = ss.length
  | [], [], _ => rfl
  | d :: ds, s :: ss, h => congrArg (· + 1) (Drawn.length h.2)
  | [], _ :: _, h => h.elim
  | _ :: _, [], h => h.elim
theorem le_sz {n : Nat} (h : n ≤ 1000) : n ≤ SZ := Nat.le_trans h (by decide)
mutual
theorem eqv_refl : ∀ (n : Nat) (d : D), pl n d = true → eqv d d = true
  | _, .non, _ => by simp [eqv]
  | _, .bl _, _ => by simp [eqv]
  | _, .int _, _ => by simp [eqv]
  | _, .str _, _ => by simp [eqv]
  | 0, .tup _, h => by simp [pl] at h
  | 0, .lst _, h => by simp [pl] at h
  | n + 1, .tup xs, h => by
    simp only [pl] at h
    unfold eqv
    exact eqv_reflL n xs h
  | n + 1, .lst xs, h => by
    simp only [pl] at h
    unfold eqv
    exact eqv_reflL n xs h
  | n, .ins _ _, h => by cases n <;> simp [pl] at h
  | n, .dic _ _, h => by cases n <;> simp [pl] at h
  | n, .drw _, h => by cases n <;> simp [pl] at h
theorem eqv_reflL : ∀ (n : Nat) (ds : List D), ds.all (pl n) = true → eqv.eqvL ds ds = true
  | _, [], _ => by simp [eqv.eqvL]
  | n, d :: ds, h => by
    simp only [List.all_cons, Bool.and_eq_true] at h
    simp only [eqv.eqvL, eqv_refl n d h.1, eqv_reflL n ds h.2, Bool.and_self]
end
theorem compL_mapI {α : Type} {f : D → Res (Option D)} {k h : α → D} : ∀ {ys : List α}, (∀ y ∈ ys, f (k y) = .ok (some (h y))) → compL f (ys.map k) = .ok (ys.map h)
  | [], _ => rfl
  | y :: ys, q => by
    rw [List.map_cons, List.map_cons]
    unfold compL
    rw [q y List.mem_cons_self, compL_mapI fun z hz => q z (List.mem_cons_of_mem _ hz)] <;> rfl
theorem lc_mapI {α : Type} {it : IM} {vs : List Nat} {g : GM} {elt : EM} {e : Env} {ys : List α} {k h : α → D} (hi : it e = .ok (ys.map k)) (hz : ys.length ≤ SZ) (hx : ∀ y ∈ ys, ∃ e1, g (k y) (wipe e vs) = some e1 ∧ elt e1 = .ok (h y)) : lcE it vs g yes elt e = .ok (.lst (ys.map h)) := by
  unfold lcE
  rw [hi]
  have q : compL (compF vs g yes elt e) (ys.map k) = .ok (ys.map h) := compL_mapI fun x hm => by
    obtain ⟨e1, h1, h2⟩ := hx x hm
    unfold compF
    rw [h1]
    simp [yes, h2]
  simp only [bind_ok, q, noexc_ok, List.length_map]
  exact chk_ok hz
theorem sum_map {α : Type} (f : α → Int) (ys : List α) : bsum (.lst (ys.map fun y => .int (f y))) = .ok (.int (ys.map f).sum) := by
  have q := bsum_ints (ys.map f)
  rw [List.map_map] at q
  exact q
theorem seq_next {a b : SM} {e e' : Env} (h : a e = .ok (.next e')) : seq a b e = b e' := by
  rw [seq_eq, h]
  rfl
theorem slc_eq (a : EM) (lo hi : Option EM) (e : Env) : slc a lo hi e = (a e >>= fun x => slc.bnd lo e >>= fun i => slc.bnd hi e >>= fun j => oslc x i j) := rfl
theorem bnd_none (e : Env) : slc.bnd none e = .ok none := rfl
theorem bnd_some (m : EM) (e : Env) : slc.bnd (some m) e = (m e >>= fun d => match d with | .int i => .ok (some i) | _ => .stuck) := rfl
end Py.U
/-! Numbers of first meetings; classes of states; a search by levels. No program in sight. -/
namespace Py.U
section
variable {α β : Type} [DecidableEq α] [DecidableEq β]
def addU (s : List α) (k : α) : List α := if k ∈ s then s else s ++ [k]
theorem mem_addU {s : List α} {k x : α} : x ∈ addU s k ↔ x ∈ s ∨ x = k := by
  unfold addU
  split
  · rename_i h
    constructor
    · exact .inl
    · rintro (q | rfl)
      · exact q
      · exact h
  · simp
theorem nodup_addU {s : List α} {k : α} (h : s.Nodup) : (addU s k).Nodup := by
  unfold addU
  split
  · exact h
  · rename_i hk
    rw [List.nodup_append]
    refine ⟨h, by simp, fun a ha b hb => ?_⟩
    rw [List.mem_singleton.mp hb]
    rintro rfl
    exact hk ha
theorem foldU : ∀ (ks s : List α), s.Nodup → (ks.foldl addU s).Nodup ∧ ∀ x, x ∈ ks.foldl addU s ↔ x ∈ s ∨ x ∈ ks
  | [], s, h => ⟨h, fun x => by simp⟩
  | k :: ks, s, h => by
    obtain ⟨h1, h2⟩ := foldU ks (addU s k) (nodup_addU h)
    refine ⟨h1, fun x => ?_⟩
    rw [List.foldl_cons, h2, mem_addU, List.mem_cons]
    constructor
    · rintro ((a | a) | a)
      · exact .inl a
      · exact .inr (.inl a)
      · exact .inr (.inr a)
    · rintro (a | a | a)
      · exact .inl (.inl a)
      · exact .inl (.inr a)
      · exact .inr a
end
/-! ### classes -/
/-! ### a search by levels -/
section
variable (C : Nat → Nat) (nx : List (List Nat))
def stepT (f : List Nat) (t : Nat) : List Nat := if C t ∈ f.map C then f else f ++ [t]
def stepS (f : List Nat) (s : Nat) : List Nat := (nx.getD s []).foldl (stepT C) f
variable {C nx}
theorem stepT_pre (f : List Nat) (t : Nat) : ∃ r, stepT C f t = f ++ r := by
  unfold stepT
  split
  · exact ⟨[], by simp⟩
  · exact ⟨[t], rfl⟩
theorem foldT_pre : ∀ (ts f : List Nat), ∃ r, ts.foldl (stepT C) f = f ++ r
  | [], f => ⟨[], by simp⟩
  | t :: ts, f => by
    obtain ⟨r, hr⟩ := stepT_pre (C := C) f t
    obtain ⟨r2, hr2⟩ := foldT_pre ts (f ++ r)
    refine ⟨r ++ r2, ?_⟩
    rw [List.foldl_cons, hr, hr2, List.append_assoc]
/-- found states: of unlike classes, all below n -/
structure Fnd (C : Nat → Nat) (n : Nat) (f : List Nat) : Prop where
  nd : (f.map C).Nodup
  lt : ∀ s ∈ f, s < n
theorem Fnd.snoc {n : Nat} {f : List Nat} (h : Fnd C n f) {t : Nat} (ht : t < n) : Fnd C n (stepT C f t) := by
  unfold stepT
  split
  · exact h
  · rename_i hn
    refine ⟨?_, fun s hs => ?_⟩
    · rw [List.map_append, List.nodup_append]
      refine ⟨h.nd, by simp, fun a ha b hb => ?_⟩
      rw [List.map_singleton] at hb
      rw [List.mem_singleton.mp hb]
      rintro rfl
      exact hn ha
    · rcases List.mem_append.mp hs with q | q
      · exact h.lt s q
      · rw [List.mem_singleton.mp q]
        exact ht
theorem Fnd.fold {n : Nat} : ∀ {ts f : List Nat}, Fnd C n f → (∀ t ∈ ts, t < n) → Fnd C n (ts.foldl (stepT C) f) ∧ ∀ t ∈ ts, C t ∈ (ts.foldl (stepT C) f).map C
  | [], f, h, _ => ⟨h, by simp⟩
  | t :: ts, f, h, ht => by
    obtain ⟨h1, h2⟩ := Fnd.fold (ts := ts) (h.snoc (ht t List.mem_cons_self)) fun x hx => ht x (List.mem_cons_of_mem _ hx)
    refine ⟨h1, fun x hx => ?_⟩
    rcases List.mem_cons.mp hx with rfl | hx
    · obtain ⟨r, hr⟩ := foldT_pre (C := C) ts (stepT C f x)
      rw [List.foldl_cons, hr, List.map_append]
      refine List.mem_append_left _ ?_
      unfold stepT
      split
      · assumption
      · simp
    · exact h2 x hx
theorem Fnd.step {n : Nat} {f : List Nat} (h : Fnd C n f) {s : Nat} (hs : ∀ t ∈ nx.getD s [], t < n) : Fnd C n (stepS C nx f s) ∧ ∀ t ∈ nx.getD s [], C t ∈ (stepS C nx f s).map C := Fnd.fold h hs
theorem Fnd.len {n m : Nat} {f : List Nat} (h : Fnd C n f) (hC : ∀ s, s < n → C s < m) : f.length ≤ m := by
  have hs : f.map C ⊆ List.range m := fun x hx => by
    obtain ⟨s, hs, rfl⟩ := List.mem_map.mp hx
    exact List.mem_range.mpr (hC s (h.lt s hs))
  have := h.nd.length_le_of_subset hs
  simpa using this
end
end Py.U
/-! Dicts from keys to numbers of first meetings, as data. -/
namespace Py.U
def nD (n : Nat) : D := .int (n : Int)
/-! ### equations -/
@[simp] theorem dic0_eq (t : Bool) (e : Env) : dic0 t e = .ok (.dic t []) := rfl
/-! ### keys -/
/-! ### numbers, lines -/
def rD (r : List Nat) : D := .tup (r.map nD)
/-! ### each key by the number of its first meeting -/
end Py.U
/-! Whatever is drawn: how mirrors that draw are computed. -/
namespace Py.U
open PySem
@[simp] theorem always_ok {α : Type} {P : α → Prop} {a : α} : Always P (.ok a) = P a := rfl
theorem _root_.Py.Always.mono {α : Type} {P Q : α → Prop} {r : Res α} (h : Always P r) (k : ∀ a, P a → Q a) : Always Q r := by
  induction r with
  | ok a => exact k a h
  | exc c fs => exact h
  | stuck => exact h
  | pick n f ih => exact fun i hi => ih i (h i hi)
theorem _root_.Py.Always.bind {α β : Type} {Q : α → Prop} {P : β → Prop} {r : Res α} {f : α → Res β} (h : Always Q r) (k : ∀ a, Q a → Always P (f a)) : Always P (r >>= f) := by
  induction r with
  | ok a => exact k a h
  | exc c fs => exact h.elim
  | stuck => exact h.elim
  | pick n g ih =>
    rw [bind_pick]
    exact fun i hi => ih i (h i hi)
theorem _root_.Py.Always.noexc {α : Type} {P : α → Prop} {r : Res α} (h : Always P r) : Always P (Py.noexc r) := by
  induction r with
  | ok a => exact h
  | exc c fs => exact h.elim
  | stuck => exact h.elim
  | pick n g ih => exact fun i hi => ih i (h i hi)
theorem _root_.Py.Always.done {P : D → Prop} {r : Res Fl} (h : Always (fun f => match f with | .next _ => P .non | .ret d => P d | _ => False) r) : Always P (done r) := by
  unfold Py.done
  refine h.bind fun f hf => ?_
  cases f with
  | next e => exact hf
  | ret d => exact hf
  | brk e => exact hf
  | cnt e => exact hf
/-- a draw -/
theorem pick_a {P : D → Prop} {k : Bool} {n : Nat} (h0 : 0 < n) (h1 : n < 1000000) (h : ∀ i : Nat, i < n → P (nD i)) : Always P (pickF k [.drw (.inl k), nD n]) := by
  show Always P (if k = k ∧ 0 < ((n : Nat) : Int) ∧ ((n : Nat) : Int) < 1073741824 then .pick (((n : Nat) : Int) - 1).toNat (fun i => .ok (.int i)) else .stuck)
  rw [if_pos ⟨rfl, by omega, by omega⟩]
  intro i hi
  exact h i (by omega)
/-- a draw as it is called -/
theorem pickc {Q : D → Prop} {k : Bool} {e : Env} {i : Nat} {m : EM} {d : D} (n : Nat) (h : e[i]? = some (some (.drw (.inl k)))) (hm : m e = .ok d) (hd : d = nD n) (h0 : 0 < n) (h1 : n < 1000000) (q : ∀ i : Nat, i < n → Q (nD i)) : Always Q (call (pickF k) (argC (var i) (argC m argN)) e) := by
  rw [call_eq, argC_eq, var_eq h, bind_ok, argC_eq, hm, bind_ok, hd]
  exact pick_a h0 h1 q
/-! ### statements -/
def NX (I : Env → Prop) (f : Fl) : Prop := ∃ e, f = .next e ∧ I e
theorem seq_a {P : Fl → Prop} {I : Env → Prop} {a b : SM} {e : Env} (h : Always (NX I) (a e)) (k : ∀ e', I e' → Always P (b e')) : Always P (seq a b e) := by
  rw [seq_eq]
  refine h.bind ?_
  rintro f ⟨e', rfl, hI⟩
  exact k e' hI
theorem asg_a {P : Fl → Prop} {Q : D → Prop} {i : Nat} {m : EM} {r : SM} {e : Env} (h : Always Q (m e)) (k : ∀ d, Q d → Always P (r (e.set i (some d)))) : Always P (seq (asg (gnm i) m) r e) := by
  rw [seq_eq, asg_eq]
  refine Always.bind (Q := fun f => ∃ d, Q d ∧ f = .next (e.set i (some d))) (h.bind fun d hd => ⟨d, hd, rfl⟩) ?_
  rintro f ⟨d, hd, rfl⟩
  exact k d hd
theorem asg_1 {P : Fl → Prop} {Q : D → Prop} {i : Nat} {m : EM} {e : Env} (h : Always Q (m e)) (k : ∀ d, Q d → P (.next (e.set i (some d)))) : Always P (asg (gnm i) m e) := by
  rw [asg_eq]
  exact h.bind fun d hd => k d hd
theorem ite_a {P : Fl → Prop} {t : TM} {a b : SM} {e : Env} {c : Bool} (h : t e = .ok c) (h1 : c = true → Always P (a e)) (h2 : c = false → Always P (b e)) : Always P (Py.ite t a b e) := by
  rw [ite_eq, h, bind_ok]
  cases c
  · exact h2 rfl
  · exact h1 rfl
theorem for_a {b : D → Env → Res Fl} (I : Nat → Env → Prop) : ∀ {xs : List D} {e : Env} (k : Nat), I k e → (∀ i e, (h : i < xs.length) → I (k + i) e → Always (NX (I (k + i + 1))) (b xs[i] e)) → Always (NX (I (k + xs.length))) (forL b xs e)
  | [], e, k, h, _ => ⟨e, rfl, h⟩
  | x :: xs, e, k, h, hb => by
    unfold forL
    refine (hb 0 e (by simp) h).bind ?_
    rintro f ⟨e1, rfl, h1⟩
    have q := for_a (b := b) I (xs := xs) (e := e1) (k + 1) h1 fun i e' hi hI => by
      have := hb (i + 1) e' (by simpa using hi) (by rwa [show k + (i + 1) = k + 1 + i by omega])
      rwa [show k + (i + 1) + 1 = k + 1 + i + 1 by omega] at this
    rwa [show k + (x :: xs).length = k + 1 + xs.length by simp; omega]
theorem forR_a {b : D → Env → Res Fl} (I : Nat → Env → Prop) {n : Nat} {e : Env} (h0 : I 0 e) (hb : ∀ i e, i < n → I i e → Always (NX (I (i + 1))) (b (nD i) e)) : Always (NX (I n)) (forL b ((List.range n).map nD) e) := by
  have q := for_a (b := b) (xs := (List.range n).map nD) (e := e) I 0 h0 fun i e' hi hI => by
    have hi' : i < n := by simpa using hi
    have := hb i e' hi' (by rwa [Nat.zero_add] at hI)
    rw [Nat.zero_add]
    simpa using this
  rwa [Nat.zero_add, List.length_map, List.length_range] at q
theorem irng_n {a : EM} {e : Env} {n : Nat} (h : a e = .ok (nD n)) (hn : n ≤ 1000) : irng1 a e = .ok ((List.range n).map nD) := irng1_nat h (rng_lt hn)
theorem for_s {P : Fl → Prop} {I : Env → Prop} {it : IM} {g : GM} {b r : SM} {e : Env} {xs : List D} (h : it e = .ok xs) (hb : Always (NX I) (forL (forB g b) xs e)) (k : ∀ e', I e' → Always P (r e')) : Always P (seq (for_ it g b) r e) := by
  refine seq_a (I := I) ?_ k
  rw [for_eq, h, bind_ok]
  exact hb
/-! ### comprehensions of numbers -/
end Py.U
/-! Classes of states and the least machine, as data. -/
namespace Py.U
/-! ### tables -/
def at1 (bs : List Nat) (a : Nat) : Nat := bs.getD a 0
def rw1 (t : List (List Nat)) (i : Nat) : List Nat := t.getD i []
/-- a table of S lines, each of L numbers below B -/
structure Tbl (S L B : Nat) (t : List (List Nat)) : Prop where
  len : t.length = S
  row : ∀ r ∈ t, r.length = L ∧ ∀ x ∈ r, x < B
theorem Tbl.at {S L B : Nat} {t : List (List Nat)} (h : Tbl S L B t) {i : Nat} (hi : i < S) : t[i]? = some (rw1 t i) ∧ (rw1 t i).length = L ∧ ∀ x ∈ rw1 t i, x < B := by
  have hl : i < t.length := by rw [h.len]; exact hi
  obtain ⟨h1, h2⟩ := h.row t[i] (List.getElem_mem hl)
  have e : rw1 t i = t[i] := by
    unfold rw1
    rw [List.getD_eq_getElem?_getD, List.getElem?_eq_getElem hl]
    rfl
  rw [e]
  exact ⟨List.getElem?_eq_getElem hl, h1, h2⟩
/-! ### the greatest number -/
/-! ### classes -/
end Py.U
/-! The search by levels, as data: the program's form and the laws' form. -/
namespace Py.U
section
variable {S L : Nat} {nx : List (List Nat)} {cls : List Nat}
/-! ### the program's form -/
theorem oltN (a b : Nat) : olt (nD a) (nD b) = .ok (.bl (decide (a < b))) := by
  show olt (.int (a : Int)) (.int (b : Int)) = _
  rw [olt_ii]
  congr 2
  exact decide_eq_decide.mpr (by omega)
end
end Py.U
/-! The laws' form of the least machine. -/
/-! What a machine writes; the least machine writes the same; closures of searches. No program in sight. -/
namespace Py.U
/-! ### what is written -/
def wr (nx os : List (List Nat)) (s : Nat) : List Nat → List Nat
  | [] => []
  | l :: ls => at1 (rw1 os s) l :: wr nx os (at1 (rw1 nx s) l) ls
section
variable {S L : Nat} {nx os : List (List Nat)}
theorem at1_mem {r : List Nat} {l : Nat} (h : l < r.length) : at1 r l ∈ r := by
  unfold at1
  rw [List.getD_eq_getElem?_getD, List.getElem?_eq_getElem h]
  exact List.getElem_mem h
end
/-! ### closures -/
section
variable {α : Type} [DecidableEq α]
theorem addU_pre (f : List α) (t : α) : ∃ r, addU f t = f ++ r := by
  unfold addU
  split
  · exact ⟨[], by simp⟩
  · exact ⟨[t], rfl⟩
theorem foldU_pre : ∀ (ts f : List α), ∃ r, ts.foldl addU f = f ++ r
  | [], f => ⟨[], by simp⟩
  | t :: ts, f => by
    obtain ⟨r, hr⟩ := addU_pre f t
    obtain ⟨r2, hr2⟩ := foldU_pre ts (f ++ r)
    exact ⟨r ++ r2, by rw [List.foldl_cons, hr, hr2, List.append_assoc]⟩
variable {succ : α → List α}
/-- the successors of the first a are found -/
def CldU (succ : α → List α) (f : List α) (a : Nat) : Prop := ∀ i p, i < a → f[i]? = some p → ∀ q ∈ succ p, q ∈ f
structure FndU (P : α → Prop) (f : List α) : Prop where
  nd : f.Nodup
  all : ∀ p ∈ f, P p
theorem FndU.step {P : α → Prop} (hP : ∀ p, P p → ∀ q ∈ succ p, P q) {f : List α} (h : FndU P f) {p : α} (hp : P p) : FndU P ((succ p).foldl addU f) ∧ ∀ q ∈ succ p, q ∈ (succ p).foldl addU f := by
  obtain ⟨h1, h2⟩ := foldU (succ p) f h.nd
  refine ⟨⟨h1, fun x hx => ?_⟩, fun q hq => (h2 q).mpr (.inr hq)⟩
  rcases (h2 x).mp hx with q | q
  · exact h.all x q
  · exact hP p hp x q
theorem CldU.step {f : List α} {a : Nat} (h : CldU succ f a) {p : α} (hp : f[a]? = some p) : CldU succ ((succ p).foldl addU f) (a + 1) := fun i x hi hx q hq => by
  obtain ⟨r, hr⟩ := foldU_pre (succ p) f
  have ha : a < f.length := by
    by_cases c : a < f.length
    · exact c
    · rw [List.getElem?_eq_none (by omega)] at hp
      cases hp
  rw [hr] at hx ⊢
  rw [List.getElem?_append_left (by omega)] at hx
  by_cases e : i = a
  · subst e
    rw [hp] at hx
    cases hx
    rw [← hr]
    have : ∀ (ts f : List α) (q : α), q ∈ ts → q ∈ ts.foldl addU f := by
      intro ts
      induction ts with
      | nil => intro f q h; cases h
      | cons t ts ih =>
        intro f q h
        rw [List.foldl_cons]
        rcases List.mem_cons.mp h with rfl | h
        · obtain ⟨r, hr⟩ := foldU_pre ts (addU f q)
          rw [hr]
          exact List.mem_append_left _ (mem_addU.mpr (.inr rfl))
        · exact ih _ q h
    exact this _ _ _ hq
  · exact List.mem_append_left _ (h i x (by omega) hx q hq)
end
end Py.U
/-! The least of the least machine is itself. -/
/-! States apart are apart by a word shorter than the number of states. -/
namespace Py.U
section
variable {S L : Nat} {nx os : List (List Nat)}
def Eqw (L : Nat) (nx os : List (List Nat)) (j s s' : Nat) : Prop := ∀ w : List Nat, w.length ≤ j → (∀ l ∈ w, l < L) → wr nx os s w = wr nx os s' w
theorem Eqw.mono {j j' s s' : Nat} (h : Eqw L nx os j s s') (hj : j' ≤ j) : Eqw L nx os j' s s' := fun w hw hl => h w (by omega) hl
end
end Py.U
/-! A search by levels over pairs of states, with the ways to them. No program in sight. -/
namespace Py.U
abbrev P2 := Nat × Nat
/-- a found pair, the way to it, the reading that leads to it -/
abbrev Nd := P2 × Option (P2 × Nat) × List Nat
def addG (p : P2) (r : List Nat) (f : List Nd) (g : Nat × P2) : List Nd := if g.2 ∈ f.map (·.1) then f else f ++ [(g.2, some (p, g.1), r ++ [g.1])]
def stepG (f : List Nd) (n : Nd) (gs : List (Nat × P2)) : List Nd := gs.foldl (addG n.1 n.2.2) f
theorem stepG_char (n : Nd) : ∀ (gs : List (Nat × P2)) (f : List Nd), (f.map (·.1)).Nodup → ∃ r, stepG f n gs = f ++ r ∧ ((f ++ r).map (·.1)).Nodup ∧ (∀ x ∈ r, ∃ l, (l, x.1) ∈ gs ∧ x = (x.1, some (n.1, l), n.2.2 ++ [l])) ∧ ∀ g ∈ gs, g.2 ∈ (f ++ r).map (·.1)
  | [], f, h => ⟨[], by simp [stepG], by simpa using h, by simp, by simp⟩
  | g :: gs, f, h => by
    unfold stepG
    rw [List.foldl_cons]
    by_cases c : g.2 ∈ f.map (·.1)
    · have e : addG n.1 n.2.2 f g = f := if_pos c
      rw [e]
      obtain ⟨r, h1, h2, h3, h4⟩ := stepG_char n gs f h
      refine ⟨r, h1, h2, fun x hx => ?_, fun y hy => ?_⟩
      · obtain ⟨l, a, b⟩ := h3 x hx
        exact ⟨l, List.mem_cons_of_mem _ a, b⟩
      · rcases List.mem_cons.mp hy with rfl | hy
        · rw [List.map_append]
          exact List.mem_append_left _ c
        · exact h4 y hy
    · have e : addG n.1 n.2.2 f g = f ++ [(g.2, some (n.1, g.1), n.2.2 ++ [g.1])] := if_neg c
      rw [e]
      have hn : ((f ++ [(g.2, some (n.1, g.1), n.2.2 ++ [g.1])]).map (·.1)).Nodup := by
        rw [List.map_append, List.nodup_append]
        refine ⟨h, by simp, fun a ha b hb => ?_⟩
        rw [List.map_singleton] at hb
        rw [List.mem_singleton.mp hb]
        rintro rfl
        exact c ha
      obtain ⟨r, h1, h2, h3, h4⟩ := stepG_char n gs _ hn
      refine ⟨(g.2, some (n.1, g.1), n.2.2 ++ [g.1]) :: r, ?_, ?_, fun x hx => ?_, fun y hy => ?_⟩
      · refine h1.trans ?_
        rw [List.append_assoc]
        rfl
      · rw [List.append_assoc] at h2
        exact h2
      · rcases List.mem_cons.mp hx with rfl | hx
        · exact ⟨g.1, List.mem_cons_self, rfl⟩
        · obtain ⟨l, a, b⟩ := h3 x hx
          exact ⟨l, List.mem_cons_of_mem _ a, b⟩
      · rcases List.mem_cons.mp hy with rfl | hy
        · simp
        · have := h4 y hy
          rw [List.append_assoc] at this
          exact this
structure Wf (gs : P2 → List (Nat × P2)) (b : P2) (f : List Nd) (a : Nat) : Prop where
  nd : (f.map (·.1)).Nodup
  hd : f[0]? = some (b, none, [])
  par : ∀ (j : Nat) (n : Nd), f[j]? = some n → j = 0 ∨ ∃ (i : Nat) (m : Nd) (l : Nat), i < j ∧ i < a ∧ f[i]? = some m ∧ n = (n.1, some (m.1, l), m.2.2 ++ [l]) ∧ (l, n.1) ∈ gs m.1
  clo : ∀ (i : Nat) (n : Nd), i < a → f[i]? = some n → ∀ g ∈ gs n.1, ∃ (j : Nat) (m : Nd), f[j]? = some m ∧ m.1 = g.2 ∧ m.2.2.length ≤ n.2.2.length + 1
  mono : ∀ (i j : Nat) (m n : Nd), i ≤ j → f[i]? = some m → f[j]? = some n → m.2.2.length ≤ n.2.2.length
  top : ∀ (i : Nat) (n m : Nd), f[a]? = some n → f[i]? = some m → m.2.2.length ≤ n.2.2.length + 1
theorem Wf.step {gs : P2 → List (Nat × P2)} {b : P2} {f : List Nd} {a : Nat} (h : Wf gs b f a) {n : Nd} (hn : f[a]? = some n) : Wf gs b (stepG f n (gs n.1)) (a + 1) := by
  obtain ⟨r, e, h2, h3, h4⟩ := stepG_char n (gs n.1) f h.nd
  rw [e]
  have ha : a < f.length := (List.getElem?_eq_some_iff.mp hn).1
  have old : ∀ (j : Nat) (m : Nd), (f ++ r)[j]? = some m → (j < f.length ∧ f[j]? = some m) ∨ (f.length ≤ j ∧ m ∈ r ∧ m.2.2.length = n.2.2.length + 1) := fun j m hm => by
    by_cases c : j < f.length
    · rw [List.getElem?_append_left c] at hm
      exact .inl ⟨c, hm⟩
    · rw [List.getElem?_append_right (by omega)] at hm
      have hr := List.mem_of_getElem? hm
      obtain ⟨l, _, q⟩ := h3 m hr
      refine .inr ⟨by omega, hr, ?_⟩
      rw [q]
      simp
  have new : ∀ {j : Nat} {m : Nd}, f[j]? = some m → (f ++ r)[j]? = some m := fun {j m} hm => by
    rw [List.getElem?_append_left (List.getElem?_eq_some_iff.mp hm).1]
    exact hm
  have all : ∀ (j : Nat) (m : Nd), (f ++ r)[j]? = some m → m.2.2.length ≤ n.2.2.length + 1 := fun j m hm => by
    rcases old j m hm with ⟨_, q⟩ | ⟨_, _, q⟩
    · exact h.top j n m hn q
    · omega
  refine ⟨h2, new h.hd, fun j m hm => ?_, fun i m hi hm g hg => ?_, fun i j m m' hij hm hm' => ?_, fun i m m' hm hm' => ?_⟩
  · rcases old j m hm with ⟨_, q⟩ | ⟨q1, q2, _⟩
    · rcases h.par j m q with q | ⟨i, m', l, i1, i2, i3, i4, i5⟩
      · exact .inl q
      · exact .inr ⟨i, m', l, i1, by omega, new i3, i4, i5⟩
    · obtain ⟨l, x1, x2⟩ := h3 m q2
      exact .inr ⟨a, n, l, by omega, by omega, new hn, x2, x1⟩
  · by_cases c : i = a
    · subst c
      have e2 : m = n := Option.some.inj (hm.symm.trans (new hn))
      subst e2
      obtain ⟨m', x1, x2⟩ := List.mem_map.mp (h4 g hg)
      obtain ⟨j, hj, rfl⟩ := List.mem_iff_getElem.mp x1
      exact ⟨j, _, List.getElem?_eq_getElem hj, x2, all j _ (List.getElem?_eq_getElem hj)⟩
    · have hi2 : i < a := by omega
      rcases old i m hm with ⟨_, q⟩ | ⟨q, _⟩
      · obtain ⟨j, m', x1, x2, x3⟩ := h.clo i m hi2 q g hg
        exact ⟨j, m', new x1, x2, x3⟩
      · omega
  · rcases old i m hm with ⟨_, q⟩ | ⟨q, _, q3⟩
    · rcases old j m' hm' with ⟨_, q'⟩ | ⟨_, _, q'⟩
      · exact h.mono i j m m' hij q q'
      · have := h.top i n m hn q
        omega
    · rcases old j m' hm' with ⟨q', _⟩ | ⟨_, _, q'⟩
      · omega
      · omega
  · have l1 := all i m' hm'
    have : n.2.2.length ≤ m.2.2.length := by
      rcases old (a + 1) m hm with ⟨_, q⟩ | ⟨_, _, q⟩
      · exact h.mono a (a + 1) n m (by omega) hn q
      · omega
    omega
/-! ### readings lead to the pairs -/
section
variable {L : Nat} {nx1 os1 nx2 os2 : List (List Nat)}
def stW (nx : List (List Nat)) (s : Nat) (w : List Nat) : Nat := w.foldl (fun s l => at1 (rw1 nx s) l) s
theorem stW_snoc (nx : List (List Nat)) (s : Nat) (w : List Nat) (l : Nat) : stW nx s (w ++ [l]) = at1 (rw1 nx (stW nx s w)) l := by
  unfold stW
  rw [List.foldl_append]
  rfl
def runP (nx1 nx2 : List (List Nat)) (b : P2) (w : List Nat) : P2 := (stW nx1 b.1 w, stW nx2 b.2 w)
def gsP (L : Nat) (nx1 nx2 : List (List Nat)) (p : P2) : List (Nat × P2) := (List.range L).map fun l => (l, (at1 (rw1 nx1 p.1) l, at1 (rw1 nx2 p.2) l))
theorem mem_gsP {p g : P2} {l : Nat} : (l, g) ∈ gsP L nx1 nx2 p ↔ l < L ∧ g = (at1 (rw1 nx1 p.1) l, at1 (rw1 nx2 p.2) l) := by
  unfold gsP
  constructor
  · intro h
    obtain ⟨x, hx, e⟩ := List.mem_map.mp h
    have := List.mem_range.mp hx
    cases e
    exact ⟨this, rfl⟩
  · rintro ⟨h, rfl⟩
    exact List.mem_map.mpr ⟨l, List.mem_range.mpr h, rfl⟩
theorem Wf.lead {b : P2} {f : List Nd} {a : Nat} (h : Wf (gsP L nx1 nx2) b f a) : ∀ (j : Nat) (n : Nd), f[j]? = some n → runP nx1 nx2 b n.2.2 = n.1 ∧ ∀ l ∈ n.2.2, l < L := by
  intro j
  induction j using Nat.strongRecOn with
  | ind j ih =>
    intro n hn
    rcases h.par j n hn with rfl | ⟨i, m, l, i1, i2, i3, i4, i5⟩
    · have := Option.some.inj (hn.symm.trans h.hd)
      subst this
      exact ⟨rfl, by simp⟩
    · obtain ⟨q1, q2⟩ := ih i i1 m i3
      obtain ⟨g1, g2⟩ := mem_gsP.mp i5
      have er : n.2.2 = m.2.2 ++ [l] := by rw [i4]
      rw [er]
      refine ⟨?_, fun x hx => ?_⟩
      · rw [g2]
        unfold runP at q1 ⊢
        rw [stW_snoc, stW_snoc, ← q1]
      · rcases List.mem_append.mp hx with c | c
        · exact q2 x c
        · rw [List.mem_singleton.mp c]
          exact g1
end
end Py.U
/-! The two searches over pairs find the same. -/
/-! The first reading by which two states are apart. -/
namespace Py.U
section
variable {S1 S2 L B : Nat} {nx1 os1 nx2 os2 : List (List Nat)}
theorem stW_lt {S : Nat} {nx : List (List Nat)} (h : Tbl S L S nx) : ∀ (w : List Nat) (s : Nat), s < S → (∀ l ∈ w, l < L) → stW nx s w < S
  | [], s, hs, _ => hs
  | l :: w, s, hs, hl => stW_lt h w (at1 (rw1 nx s) l) ((h.at hs).2.2 _ (at1_mem (by rw [(h.at hs).2.1]; exact hl l List.mem_cons_self))) fun x hx => hl x (List.mem_cons_of_mem _ hx)
theorem Wf.lt (h1 : Tbl S1 L S1 nx1) (h2 : Tbl S2 L S2 nx2) {b : P2} (hb : b.1 < S1 ∧ b.2 < S2) {f : List Nd} {a : Nat} (h : Wf (gsP L nx1 nx2) b f a) {n : Nd} (hn : n ∈ f) : n.1.1 < S1 ∧ n.1.2 < S2 := by
  obtain ⟨j, hj, rfl⟩ := List.mem_iff_getElem.mp hn
  obtain ⟨q1, q2⟩ := h.lead j _ (List.getElem?_eq_getElem hj)
  rw [← q1]
  exact ⟨stW_lt h1 _ _ hb.1 q2, stW_lt h2 _ _ hb.2 q2⟩
theorem all_pairs (S1 S2 : Nat) : ((List.range S1).flatMap fun i => (List.range S2).map fun j => (i, j)).length = S1 * S2 := by
  rw [List.length_flatMap]
  have : (List.range S1).map (fun a => ((List.range S2).map fun j => (a, j)).length) = List.replicate S1 S2 := by
    apply List.ext_getElem <;> simp
  rw [this]
  simp
theorem Wf.size (h1 : Tbl S1 L S1 nx1) (h2 : Tbl S2 L S2 nx2) {b : P2} (hb : b.1 < S1 ∧ b.2 < S2) (f : List Nd) (a : Nat) (h : Wf (gsP L nx1 nx2) b f a) : f.length ≤ S1 * S2 := by
  have q := h.nd.length_le_of_subset (l₂ := (List.range S1).flatMap fun i => (List.range S2).map fun j => (i, j)) fun p hp => by
    obtain ⟨n, hn, rfl⟩ := List.mem_map.mp hp
    obtain ⟨a1, a2⟩ := h.lt h1 h2 hb hn
    exact List.mem_flatMap.mpr ⟨n.1.1, List.mem_range.mpr a1, List.mem_map.mpr ⟨n.1.2, List.mem_range.mpr a2, rfl⟩⟩
  rw [all_pairs, List.length_map] at q
  exact q
/-! ### both exchanged -/
end
end Py.U
/-! The dict of the ways to pairs, as data. -/
/-! How long the readings found are. -/
/-! Words of numbers, bit by bit. -/
namespace Py.U
def bt (n p : Nat) : Nat := n / 2 ^ p % 2
theorem bt_tb (n p : Nat) : bt n p = if n.testBit p then 1 else 0 := by
  rw [Nat.testBit_eq_decide_div_mod_eq]
  unfold bt
  by_cases h : n / 2 ^ p % 2 = 1
  · simp [h]
  · simp [h]
    omega
theorem bt_and (x y p : Nat) : bt (x &&& y) p = if bt x p + bt y p = 2 then 1 else 0 := by
  rw [bt_tb, bt_tb, bt_tb, Nat.testBit_and]
  cases x.testBit p <;> cases y.testBit p <;> simp
theorem bt_or (x y p : Nat) : bt (x ||| y) p = if 0 < bt x p + bt y p then 1 else 0 := by
  rw [bt_tb, bt_tb, bt_tb, Nat.testBit_or]
  cases x.testBit p <;> cases y.testBit p <;> simp
theorem bt_xor (x y p : Nat) : bt (x ^^^ y) p = if bt x p = bt y p then 0 else 1 := by
  rw [bt_tb, bt_tb, bt_tb, Nat.testBit_xor]
  cases x.testBit p <;> cases y.testBit p <;> simp
/-! ### sums -/
/-! ### differences -/
end Py.U
/-! Lanes: numbers whose bits stand for many places at once. No program in sight. -/
namespace Py.U
open PySem
theorem nat_eq (a b : Nat) : oeq (nD a) (nD b) = .ok (.bl (decide (a = b))) := by
  unfold nD
  rw [oeq_ii]
  congr 2
  rw [Bool.eq_iff_iff]
  simp only [beq_iff_eq, decide_eq_true_eq]
  exact Int.ofNat_inj
theorem nadd (a b : Nat) : oadd (nD a) (nD b) = .ok (nD (a + b)) := by
  unfold nD
  rw [oadd_ii]
  rfl
theorem enum_at {ds : List D} {k i : Nat} (h : i < (enumL k ds).length) (h2 : i < ds.length) : (enumL k ds)[i] = .tup [.int ((k + i : Nat) : Int), ds[i]] := by
  induction ds generalizing k i with
  | nil => simp at h2
  | cons d ds ih =>
    cases i with
    | zero => rfl
    | succ i =>
      simp only [enumL, List.getElem_cons_succ]
      rw [ih (k := k + 1) _ (by simpa using h2)]
      rw [show k + 1 + i = k + (i + 1) by omega]
theorem enum_len : ∀ (ds : List D) (k : Nat), (enumL k ds).length = ds.length
  | [], _ => rfl
  | d :: ds, k => by
    simp only [enumL, List.length_cons]
    rw [enum_len ds]
theorem isint_ok (n : Nat) : m_is_integer [nD n] = .ok (.bl true) := by
  have h1 : oisi CS [.int] (nD n) = .ok (.bl true) := rfl
  have h2 : oisi CS [.bl] (nD n) = .ok (.bl false) := rfl
  unfold m_is_integer
  rw [fn1]
  unfold b_is_integer
  generalize nD n = N at *
  simp [var, h1, h2]
theorem is_below_ok (a b : Nat) : m_is_below [nD a, nD b] = .ok (.bl (decide (a < b))) := by
  have h := isint_ok a
  have h1 : ole (.int 0) (nD a) = .ok (.bl true) := by
    unfold nD
    rw [ole_ii, decide_eq_true (by omega)]
  have h2 : olt (nD a) (nD b) = .ok (.bl (decide (a < b))) := by
    unfold nD
    rw [olt_ii]
    congr 2
    exact decide_eq_decide.mpr (by omega)
  unfold m_is_below
  rw [fn2]
  unfold b_is_below
  generalize nD a = A at *
  generalize nD b = B at *
  simp [var, h, h1, h2]
theorem shl_nD {n : Nat} (h : n ≤ 1000) : oshl (.int 1) (nD n) = .ok (nD (2 ^ n)) := by
  unfold nD
  rw [oshl1 n h]
  simp
/-! ### the same? -/
/-! ### the row is made -/
theorem inputs_ok {n : Nat} (h1 : 1 ≤ n) (h3 : n ≤ 3) : m_is_inputs [nD n] = .ok (.bl true) := by
  have : n = 1 ∨ n = 2 ∨ n = 3 := by omega
  rcases this with rfl | rfl | rfl <;> rfl
theorem made_eq {p n : Nat} {cls : String} {body : SM} {ds : List D} {c : String} {fs : List (String × D)} {r : Env} (hl : ds.length + 1 = p) (h : body ((some (.ins cls []) :: ds.map some) ++ List.replicate (n - p) none) = .ok (.next (some (.ins c fs) :: r))) : made p n cls body ds = .ok (.ins c fs) := by
  unfold made
  rw [if_pos hl, h]
  rfl
/-! ### numbers from nought -/
theorem nsub {a b : Nat} (h : b ≤ a) : osub (nD a) (nD b) = .ok (nD (a - b)) := by
  unfold nD
  rw [osub_ii]
  congr 2
  omega
/-! ### letters drawn -/
theorem chk_pass {c : TM} {r b : SM} {e : Env} (h : c e = .ok false) : seq (Py.ite c b skip) r e = r e := by
  refine seq_next ?_
  unfold Py.ite
  rw [h, bind_ok]
  rfl
theorem asg_pass {i : Nat} {m : EM} {r : SM} {e : Env} {d : D} (h : m e = .ok d) : seq (asg (gnm i) m) r e = r (e.set i (some d)) := by
  refine seq_next ?_
  rw [asg_eq, h]
  rfl
theorem for_pass {it : IM} {g : GM} {b r : SM} {e e' : Env} {xs : List D} (h : it e = .ok xs) (h2 : forL (forB g b) xs e = .ok (.next e')) : seq (for_ it g b) r e = r e' := by
  refine seq_next ?_
  rw [for_eq, h]
  exact h2
theorem ite_in {c : TM} {r b : SM} {e e' : Env} (h : c e = .ok true) (h2 : b e = .ok (.next e')) : seq (Py.ite c b skip) r e = r e' := by
  refine seq_next ?_
  unfold Py.ite
  rw [h, bind_ok]
  exact h2
/-! ### deeds drawn -/
theorem nmul {a b : Nat} (h : a ≤ 1000) : omul (nD a) (nD b) = .ok (nD (a * b)) := by
  unfold nD
  rw [omul_l (by omega) (by omega)]
  simp
theorem as_tup (ds : List D) : m_as_tuple [.lst ds] = .ok (.tup ds) := by
  have h : oisi CS [.lst, .tup] (.lst ds) = .ok (.bl true) := rfl
  unfold m_as_tuple
  rw [fn1]
  unfold b_as_tuple
  simp [var, h]
end Py.U
namespace Py.U
open PySem
/-! ### deeds -/
inductive Deed where
  | zero | ones | inv (a : Nat) | and (a b : Nat) | or (a b : Nat) | xor (a b : Nat)
  | shift (a : Nat) | minus (a : Nat) | add (a b : Nat) | sub (a b : Nat) | count (p r : Nat) (ps : List Nat)
def Deed.d : Deed → D
  | .zero => .tup [.str "zero"]
  | .ones => .tup [.str "ones"]
  | .inv a => .tup [.str "not", nD a]
  | .and a b => .tup [.str "and", nD a, nD b]
  | .or a b => .tup [.str "or", nD a, nD b]
  | .xor a b => .tup [.str "xor", nD a, nD b]
  | .shift a => .tup [.str "shift", nD a]
  | .minus a => .tup [.str "minus", nD a]
  | .add a b => .tup [.str "add", nD a, nD b]
  | .sub a b => .tup [.str "sub", nD a, nD b]
  | .count p r ps => .tup [.str "count", nD p, nD r, .tup (ps.map nD)]
/-- its values stand ahead of n -/
def Deed.ok (n : Nat) : Deed → Prop
  | .zero => True
  | .ones => True
  | .inv a => a < n
  | .and a b => a < n ∧ b < n
  | .or a b => a < n ∧ b < n
  | .xor a b => a < n ∧ b < n
  | .shift a => a < n
  | .minus a => a < n
  | .add a b => a < n ∧ b < n
  | .sub a b => a < n ∧ b < n
  | .count p r ps => (p = 2 ∨ p = 3 ∨ p = 5) ∧ r < p ∧ 1 ≤ ps.length ∧ ps.length ≤ 4 ∧ ∀ a ∈ ps, a < n
/-! ### what deeds do, bit by bit -/
def at0 (bs : List Nat) (a : Nat) : Nat := bs.getD a 0
def tot (bs : List Nat) (ps : List Nat) : Nat := (ps.map (at0 bs)).sum
def Deed.marked : Deed → Bool
  | .shift _ => true
  | .minus _ => true
  | .add _ _ => true
  | .sub _ _ => true
  | .count _ _ _ => true
  | _ => false
def Deed.top : Deed → Nat
  | .count p _ _ => p
  | _ => 2
/-- the bit of a deed without a mark -/
def Deed.bit0 (bs : List Nat) : Deed → Nat
  | .ones => 1
  | .inv a => 1 - at0 bs a
  | .and a b => if at0 bs a + at0 bs b = 2 then 1 else 0
  | .or a b => if 0 < at0 bs a + at0 bs b then 1 else 0
  | .xor a b => if at0 bs a = at0 bs b then 0 else 1
  | _ => 0
/-- the bit and the next mark of a deed with a mark -/
def Deed.bit1 (bs : List Nat) (m : Nat) : Deed → Nat
  | .shift _ => m
  | .minus a => (at0 bs a + m) % 2
  | .add a b => (at0 bs a + at0 bs b + m) % 2
  | .sub a b => (at0 bs a + at0 bs b + m) % 2
  | .count _ r _ => if m = r then 1 else 0
  | _ => 0
def Deed.next (bs : List Nat) (m : Nat) : Deed → Nat
  | .shift a => at0 bs a
  | .minus a => if 1 ≤ at0 bs a + m then 1 else 0
  | .add a b => if 2 ≤ at0 bs a + at0 bs b + m then 1 else 0
  | .sub a b => if at0 bs a < at0 bs b + m then 1 else 0
  | .count p _ ps => (m + tot bs ps) % p
  | _ => 0
def Bits (bs : List Nat) : Prop := ∀ b ∈ bs, b = 0 ∨ b = 1
theorem at0_01 {bs : List Nat} (h : Bits bs) (a : Nat) : at0 bs a = 0 ∨ at0 bs a = 1 := by
  unfold at0
  by_cases q : a < bs.length
  · simp only [List.getD_eq_getElem?_getD, List.getElem?_eq_getElem q, Option.getD_some]
    exact h _ (List.getElem_mem q)
  · rw [List.getD_eq_getElem?_getD, List.getElem?_eq_none (by omega)]
    exact .inl rfl
theorem bits_at {bs : List Nat} {a : Nat} (h : a < bs.length) : oidx (.lst (bs.map nD)) (nD a) = .ok (nD (at0 bs a)) := by
  refine oidx_l (k := a) ?_
  unfold at0
  simp [h]
/-! the law's own bit -/
theorem ixt1 {a b : D} {r : List D} : oidx (.tup (a :: b :: r)) (.int 1) = .ok b := oidx_t (k := 1) rfl
theorem ixt0 {a : D} {r : List D} : oidx (.tup (a :: r)) (.int 0) = .ok a := oidx_t (k := 0) rfl
theorem ixt2 {a b c : D} {r : List D} : oidx (.tup (a :: b :: c :: r)) (.int 2) = .ok c := oidx_t (k := 2) rfl
theorem ixt3 {a b c d : D} {r : List D} : oidx (.tup (a :: b :: c :: d :: r)) (.int 3) = .ok d := oidx_t (k := 3) rfl
theorem nmod (a : Nat) {p : Nat} (h : 0 < p) : omod (nD a) (nD p) = .ok (nD (a % p)) := by
  unfold nD
  rw [omod_ii (by omega)]
  rfl
theorem bint_n (a : Nat) : bint (nD a) = .ok (nD a) := rfl
/-! ### all deeds of a row, at one place -/
abbrev St := List Nat × List Nat
def stp (ms : List Nat) (s : St) (x : Deed) : St :=
  if x.marked then (s.1 ++ [x.bit1 s.1 (ms.getD s.2.length 0)], s.2 ++ [x.next s.1 (ms.getD s.2.length 0)]) else (s.1 ++ [x.bit0 s.1], s.2)
def runD (ms bs : List Nat) (xs : List Deed) : St := xs.foldl (stp ms) (bs, [])
def tops (xs : List Deed) : List Nat := (xs.filter Deed.marked).map Deed.top
/-- marks below their numbers -/
def Fit : List Nat → List Nat → Prop
  | [], [] => True
  | m :: ms, t :: ts => m < t ∧ Fit ms ts
  | _, _ => False
theorem Fit.len : ∀ {ms ts : List Nat}, Fit ms ts → ms.length = ts.length
  | [], [], _ => rfl
  | m :: ms, t :: ts, h => congrArg (· + 1) (Fit.len h.2)
  | [], _ :: _, h => h.elim
  | _ :: _, [], h => h.elim
theorem Fit.at : ∀ {ms ts : List Nat} {j t : Nat}, Fit ms ts → ts[j]? = some t → ms.getD j 0 < t
  | [], [], _, _, _, h => by simp at h
  | m :: ms, t :: ts, 0, _, h, e => by
    simp at e
    subst e
    exact h.1
  | m :: ms, t :: ts, j + 1, _, h, e => by
    simp at e
    simpa using Fit.at (j := j) h.2 e
  | [], _ :: _, _, _, h, _ => h.elim
  | _ :: _, [], _, _, h, _ => h.elim
theorem Fit.snoc : ∀ {ms ts : List Nat} {m t : Nat}, Fit ms ts → m < t → Fit (ms ++ [m]) (ts ++ [t])
  | [], [], _, _, _, h => ⟨h, trivial⟩
  | m :: ms, t :: ts, _, _, h, h2 => ⟨h.1, Fit.snoc h.2 h2⟩
  | [], _ :: _, _, _, h, _ => h.elim
  | _ :: _, [], _, _, h, _ => h.elim
/-- the deeds' values stand ahead -/
def Row (n : Nat) (xs : List Deed) : Prop := ∀ k, (h : k < xs.length) → xs[k].ok (n + k)
theorem next_lt {bs : List Nat} (hb : Bits bs) {x : Deed} (hm : x.marked = true) {n : Nat} (hx : x.ok n) (m : Nat) : x.next bs m < x.top := by
  cases x with
  | shift a =>
    show at0 bs a < 2
    rcases at0_01 hb a with e | e <;> omega
  | minus a =>
    show (if 1 ≤ at0 bs a + m then 1 else 0) < 2
    split <;> omega
  | add a b =>
    show (if 2 ≤ at0 bs a + at0 bs b + m then 1 else 0) < 2
    split <;> omega
  | sub a b =>
    show (if at0 bs a < at0 bs b + m then 1 else 0) < 2
    split <;> omega
  | count p r ps =>
    obtain ⟨hp, hr, _⟩ := hx
    exact Nat.mod_lt _ (by omega)
  | _ => cases hm
theorem if01 {c : Prop} [Decidable c] : (if c then 1 else 0 : Nat) = 0 ∨ (if c then 1 else 0 : Nat) = 1 := by split <;> simp
theorem if01' {c : Prop} [Decidable c] : (if c then 0 else 1 : Nat) = 0 ∨ (if c then 0 else 1 : Nat) = 1 := by split <;> simp
theorem mod01 (a : Nat) : a % 2 = 0 ∨ a % 2 = 1 := by omega
theorem bit0_01 {bs : List Nat} (hb : Bits bs) (x : Deed) : x.bit0 bs = 0 ∨ x.bit0 bs = 1 := by
  cases x with
  | ones => exact .inr rfl
  | inv a =>
    show 1 - at0 bs a = 0 ∨ 1 - at0 bs a = 1
    omega
  | and a b => exact if01
  | or a b => exact if01
  | xor a b => exact if01'
  | _ => exact .inl rfl
theorem bit1_01 {bs : List Nat} (hb : Bits bs) (x : Deed) {m : Nat} (hm : m < x.top) : x.bit1 bs m = 0 ∨ x.bit1 bs m = 1 := by
  cases x with
  | shift a =>
    have h : m < 2 := hm
    show m = 0 ∨ m = 1
    omega
  | minus a => exact mod01 _
  | add a b => exact mod01 _
  | sub a b => exact mod01 _
  | count p r ps => exact if01
  | _ => exact .inl rfl
/-- where one stands behind k deeds -/
structure At (n : Nat) (ms : List Nat) (xs : List Deed) (k : Nat) (s : St) : Prop where
  bits : Bits s.1
  len : s.1.length = n + k
  fit : Fit s.2 (tops (xs.take k))
  eq : s = (xs.take k).foldl (stp ms) (s.1.take n, [])
theorem tops_snoc (xs : List Deed) (x : Deed) : tops (xs ++ [x]) = if x.marked then tops xs ++ [x.top] else tops xs := by
  unfold tops
  rw [List.filter_append, List.map_append]
  cases h : x.marked <;> simp [h]
theorem tops_at {xs : List Deed} {k : Nat} (h : k < xs.length) (hm : xs[k].marked = true) : (tops xs)[(tops (xs.take k)).length]? = some xs[k].top := by
  have e : xs = xs.take k ++ (xs[k] :: xs.drop (k + 1)) := by
    rw [← List.drop_eq_getElem_cons h, List.take_append_drop]
  have e2 : tops xs = tops (xs.take k) ++ (xs[k].top :: tops (xs.drop (k + 1))) := by
    unfold tops
    conv => lhs; rw [e]
    rw [List.filter_append, List.map_append, List.filter_cons, hm]
    rfl
  rw [e2, List.getElem?_append_right (Nat.le_refl _), Nat.sub_self]
  rfl
theorem At.step {n : Nat} {ms : List Nat} {xs : List Deed} {k : Nat} {s : St} (A : At n ms xs k s) (hf : Fit ms (tops xs)) (hr : Row n xs) (hk : k < xs.length) : At n ms xs (k + 1) (stp ms s xs[k]) := by
  have ht : xs.take (k + 1) = xs.take k ++ [xs[k]] := by
    rw [List.take_add_one]
    simp [hk]
  have hl := A.fit.len
  have hx := hr k hk
  rw [← A.len] at hx
  cases hm : xs[k].marked with
  | true =>
    have hlt : ms.getD s.2.length 0 < xs[k].top := by
      rw [hl]
      exact hf.at (tops_at hk hm)
    have e : stp ms s xs[k] = (s.1 ++ [xs[k].bit1 s.1 (ms.getD s.2.length 0)], s.2 ++ [xs[k].next s.1 (ms.getD s.2.length 0)]) := by
      unfold stp
      rw [hm]
      rfl
    refine ⟨?_, ?_, ?_, ?_⟩
    · rw [e]
      intro b hb
      rcases List.mem_append.mp hb with hb | hb
      · exact A.bits b hb
      · rw [List.mem_singleton.mp hb]
        exact bit1_01 A.bits _ hlt
    · rw [e]
      simp [A.len]
      omega
    · rw [e, ht, tops_snoc, hm]
      exact A.fit.snoc (next_lt A.bits hm hx _)
    · have e2 : (stp ms s xs[k]).1.take n = s.1.take n := by
        rw [e]
        exact List.take_append_of_le_length (by rw [A.len]; omega)
      rw [e2, ht, List.foldl_append, ← A.eq]
      rfl
  | false =>
    have e : stp ms s xs[k] = (s.1 ++ [xs[k].bit0 s.1], s.2) := by
      unfold stp
      rw [hm]
      rfl
    refine ⟨?_, ?_, ?_, ?_⟩
    · rw [e]
      intro b hb
      rcases List.mem_append.mp hb with hb | hb
      · exact A.bits b hb
      · rw [List.mem_singleton.mp hb]
        exact bit0_01 A.bits _
    · rw [e]
      simp [A.len]
      omega
    · rw [e, ht, tops_snoc, hm]
      exact A.fit
    · have e2 : (stp ms s xs[k]).1.take n = s.1.take n := by
        rw [e]
        exact List.take_append_of_le_length (by rw [A.len]; omega)
      rw [e2, ht, List.foldl_append, ← A.eq]
      rfl
def Deed.name : Deed → String
  | .zero => "zero"
  | .ones => "ones"
  | .inv _ => "not"
  | .and _ _ => "and"
  | .or _ _ => "or"
  | .xor _ _ => "xor"
  | .shift _ => "shift"
  | .minus _ => "minus"
  | .add _ _ => "add"
  | .sub _ _ => "sub"
  | .count _ _ _ => "count"
theorem deed_name (x : Deed) : oidx x.d (.int 0) = .ok (.str x.name) := by cases x <;> exact ixt0
/-- the bits of a letter -/
def lb (n letter : Nat) : List Nat := (List.range n).map fun k => letter / 2 ^ k % 2
theorem lb_bits (n letter : Nat) : Bits (lb n letter) := fun b hb => by
  obtain ⟨k, _, rfl⟩ := List.mem_map.mp hb
  omega
theorem lb_len (n letter : Nat) : (lb n letter).length = n := by simp [lb]
theorem bitN1 (l k : Nat) : oshr (nD l) (nD k) = .ok (nD (l / 2 ^ k)) := by
  unfold nD
  rw [oshr_nat]
  simp
theorem bitN2 (l : Nat) : oand (nD l) (.int 1) = .ok (nD (l % 2)) := by
  unfold nD
  rw [oand1]
  rfl
theorem At.all {n : Nat} {ms : List Nat} {xs : List Deed} {bs : List Nat} (hb : Bits bs) (hl : bs.length = n) (hf : Fit ms (tops xs)) (hr : Row n xs) : ∀ k, k ≤ xs.length → At n ms xs k ((xs.take k).foldl (stp ms) (bs, []))
  | 0, _ => ⟨hb, by simpa using hl, trivial, by simp [← hl]⟩
  | k + 1, h => by
    have A := At.all hb hl hf hr k (by omega)
    have hk : k < xs.length := h
    have ht : (xs.take (k + 1)).foldl (stp ms) (bs, []) = stp ms ((xs.take k).foldl (stp ms) (bs, [])) xs[k] := by
      rw [List.take_add_one, List.foldl_append]
      simp [hk]
    rw [ht]
    exact A.step hf hr hk
theorem runD_at {n : Nat} {ms : List Nat} {xs : List Deed} (l : Nat) (hf : Fit ms (tops xs)) (hr : Row n xs) (hz : n + xs.length ≤ 5000) : At n ms xs xs.length (runD ms (lb n l) xs) := by
  have A := At.all (lb_bits n l) (lb_len n l) hf hr xs.length (Nat.le_refl _)
  rw [List.take_length] at A
  exact A
end Py.U
namespace Py.U
open PySem
/-! ### the program's side: lanes of one place -/
/-- a deed's last value -/
def Deed.one : Deed → Nat
  | .inv a => a
  | .and a _ => a
  | .or a _ => a
  | .xor a _ => a
  | .shift a => a
  | .minus a => a
  | .add a _ => a
  | .sub a _ => a
  | _ => 0
def Deed.last : Deed → Nat
  | .inv a => a
  | .and _ b => b
  | .or _ b => b
  | .xor _ b => b
  | .shift a => a
  | .minus a => a
  | .add _ b => b
  | .sub _ b => b
  | _ => 0
def Deed.isCount : Deed → Bool
  | .count _ _ _ => true
  | _ => false
def rowD (n : Nat) (xs : List Deed) (out : Nat) : D := .ins "Row" [("inputs", nD n), ("deeds", .tup (xs.map Deed.d)), ("out", nD out)]
theorem count_first (x : Deed) : oeq (.str x.name) (.str "count") = .ok (.bl x.isCount) := by cases x <;> rfl
theorem carry_one {x : Deed} (hm : x.marked = true) (hc : x.isCount = false) : oidx x.d (.int 1) = .ok (nD x.one) ∧ oidx x.d (.int (-1)) = .ok (nD x.last) := by
  cases x <;> first | (cases hm; done) | (cases hc; done) | exact ⟨rfl, rfl⟩
theorem carry_in {x : Deed} (hm : x.marked = true) (hc : x.isCount = false) {n : Nat} (hx : x.ok n) : x.one < n ∧ x.last < n := by
  cases x with
  | shift a => exact ⟨hx, hx⟩
  | minus a => exact ⟨hx, hx⟩
  | add a b => exact hx
  | sub a b => exact hx
  | count p r ps => cases hc
  | _ => cases hm
theorem carry_names {x : Deed} (hm : x.marked = true) (hc : x.isCount = false) : ∀ s ∈ ["and", "or", "xor", "not", "zero", "ones", "count"], (x.name == s) = false := by
  cases x with
  | shift a => exact (by decide : ∀ s ∈ ["and", "or", "xor", "not", "zero", "ones", "count"], ("shift" == s) = false)
  | minus a => exact (by decide : ∀ s ∈ ["and", "or", "xor", "not", "zero", "ones", "count"], ("minus" == s) = false)
  | add a b => exact (by decide : ∀ s ∈ ["and", "or", "xor", "not", "zero", "ones", "count"], ("add" == s) = false)
  | sub a b => exact (by decide : ∀ s ∈ ["and", "or", "xor", "not", "zero", "ones", "count"], ("sub" == s) = false)
  | count p r ps => cases hc
  | _ => cases hm
theorem deed_cases (x : Deed) : x.marked = false ∨ (x.marked = true ∧ x.isCount = false) ∨ ∃ p r ps, x = .count p r ps := by
  cases x <;> first | exact .inl rfl | exact .inr (.inl ⟨rfl, rfl⟩) | exact .inr (.inr ⟨_, _, _, rfl⟩)
theorem filt_ok {n : Nat} {xs : List Deed} (hr : Row n xs) : ∀ x ∈ xs.filter Deed.marked, ∃ k, x.ok k := fun x hx => by
  obtain ⟨k, hk, e⟩ := List.mem_iff_getElem.mp (List.mem_filter.mp hx).1
  exact ⟨n + k, e ▸ hr k hk⟩
theorem top5 {n : Nat} {xs : List Deed} (hr : Row n xs) : ∀ x ∈ xs, x.top ≤ 5 := fun x hx => by
  obtain ⟨k, hk, e⟩ := List.mem_iff_getElem.mp hx
  have h := hr k hk
  rw [e] at h
  cases x with
  | count p r ps =>
    obtain ⟨hp, _⟩ := h
    show p ≤ 5
    omega
  | _ =>
    show 2 ≤ 5
    decide
theorem are_values_ok {W : D} {ps : List Nat} {k : Nat} (hW : iseq (var 0) [some W, some (nD k), none] = .ok (ps.map nD)) (hp : ∀ a ∈ ps, a < k) (hz : ps.length ≤ 1000) : m_are_values [W, nD k] = .ok (.bl true) := by
  have hc : lcE (iseq (var 0)) [2] (gnm 2) yes (call m_is_below (argC (var 2) (argC (var 1) argN))) [some W, some (nD k), none] = .ok (.lst (ps.map fun _ => .bl true)) := by
    refine lc_mapI (k := nD) hW (le_sz hz) fun a ha => ?_
    have q := is_below_ok a k
    rw [decide_eq_true (hp a ha)] at q
    generalize nD a = A at *
    generalize nD k = N at *
    exact ⟨_, rfl, by simp only [wipe]; simp [var, q]⟩
  have hb : ball (.lst (ps.map fun _ => .bl true)) = .ok (.bl true) := by
    have := ball_bools (ps.map fun _ => true)
    rw [List.map_map] at this
    refine this.trans ?_
    rw [show (ps.map fun _ => true).all id = true by simp]
  unfold m_are_values
  rw [fn2]
  unfold b_are_values
  generalize nD k = N at *
  generalize D.lst (ps.map fun _ => .bl true) = Z at *
  simp [var, hc, hb]
theorem values_t {ps : List Nat} {k : Nat} (hp : ∀ a ∈ ps, a < k) (hz : ps.length ≤ 1000) : m_are_values [.tup (ps.map nD), nD k] = .ok (.bl true) := are_values_ok (by simp [var]) hp hz
theorem count_deed_ok {p r k : Nat} {ps : List Nat} (hp : p = 2 ∨ p = 3 ∨ p = 5) (hr : r < p) (h1 : 1 ≤ ps.length) (h4 : ps.length ≤ 4) (ha : ∀ a ∈ ps, a < k) : m_is_count_deed [(Deed.count p r ps).d, nD k] = .ok (.bl true) := by
  have q1 := isint_ok p
  have q2 := is_below_ok r p
  rw [decide_eq_true hr] at q2
  have q3 := values_t ha (by omega)
  have q4 : onotin (nD p) (.tup [.int 2, .int 3, .int 5]) = .ok (.bl false) := by rcases hp with rfl | rfl | rfl <;> rfl
  have q5 : blen (Deed.count p r ps).d = .ok (.int 4) := rfl
  have q6 : oslc (Deed.count p r ps).d (some 1) none = .ok (.tup [nD p, nD r, .tup (ps.map nD)]) := rfl
  have q7 : oisi CS [.tup] (.tup (ps.map nD)) = .ok (.bl true) := rfl
  have q8 : blen (.tup (ps.map nD)) = .ok (.int ((ps.length : Nat) : Int)) := by simp
  have q9 : ole (.int 1) (.int ((ps.length : Nat) : Int)) = .ok (.bl true) := by rw [ole_ii, decide_eq_true (by omega)]
  have q10 : ole (.int ((ps.length : Nat) : Int)) (.int 4) = .ok (.bl true) := by rw [ole_ii, decide_eq_true (by omega)]
  unfold m_is_count_deed
  rw [fn2]
  unfold b_is_count_deed
  generalize (Deed.count p r ps).d = X at *
  generalize D.tup (ps.map nD) = T at *
  generalize ((ps.length : Nat) : Int) = Z at *
  generalize nD p = P' at *
  generalize nD r = R' at *
  generalize nD k = K' at *
  simp [var, gtup, gtupL, slc_eq, bnd_none, bnd_some, q1, q2, q3, q4, q5, q6, q7, q8, q9, q10]
theorem deed_plain {s : String} {vs : List Nat} {k : Nat} (hs : oeq (.str s) (.str "count") = .ok (.bl false)) (ht : onothas tab_SIZES (.str s) = .ok (.bl false)) (hl : olook tab_SIZES (.str s) = .ok (.int (vs.length : Int))) (ha : ∀ a ∈ vs, a < k) (hz : vs.length ≤ 1000) : m_is_deed [.tup (.str s :: vs.map nD), nD k] = .ok (.bl true) := by
  have q1 : oisi CS [.tup] (.tup (.str s :: vs.map nD)) = .ok (.bl true) := rfl
  have q2 : truthy (.tup (.str s :: vs.map nD)) = .ok true := by simp [truthy]
  have q3 : oidx (.tup (.str s :: vs.map nD)) (.int 0) = .ok (.str s) := oidx_t (k := 0) rfl
  have q4 : oisi CS [.str] (.str s) = .ok (.bl true) := rfl
  have q5 : blen (.tup (.str s :: vs.map nD)) = .ok (.int ((vs.length : Int) + 1)) := by simp
  have q6 : oslc (.tup (.str s :: vs.map nD)) (some 1) none = .ok (.tup (vs.map nD)) := by
    show Res.ok (D.tup (cut (.str s :: vs.map nD) (some 1) none)) = _
    have e : cut (D.str s :: vs.map nD) (some 1) none = vs.map nD := by
      unfold cut
      have e0 : HT.sIx (D.str s :: vs.map nD).length 0 (some 1) = 1 := by
        rw [show (1 : Int) = ((1 : Nat) : Int) from rfl, HT.sIx_nat]
        simp
      have e1 : HT.sIx (D.str s :: vs.map nD).length (D.str s :: vs.map nD).length none = (D.str s :: vs.map nD).length := rfl
      rw [e0, e1]
      have l : (vs.map nD).length = vs.length := List.length_map _
      simp only [List.drop_succ_cons, List.drop_zero, List.length_cons, Nat.add_sub_cancel]
      exact List.take_of_length_le (by omega)
    rw [e]
  have q7 := values_t ha hz
  unfold m_is_deed
  rw [fn2]
  unfold b_is_deed
  generalize D.tup (.str s :: vs.map nD) = X at *
  generalize D.tup (vs.map nD) = T at *
  generalize nD k = K' at *
  simp [var, slc_eq, bnd_none, bnd_some, q1, q2, q3, q4, q5, q6, q7, hs, ht, hl]
theorem deed_count {p r k : Nat} {ps : List Nat} (hp : p = 2 ∨ p = 3 ∨ p = 5) (hr : r < p) (h1 : 1 ≤ ps.length) (h4 : ps.length ≤ 4) (ha : ∀ a ∈ ps, a < k) : m_is_deed [(Deed.count p r ps).d, nD k] = .ok (.bl true) := by
  have q := count_deed_ok hp hr h1 h4 ha
  have q1 : oisi CS [.tup] (Deed.count p r ps).d = .ok (.bl true) := rfl
  have q2 : truthy (Deed.count p r ps).d = .ok true := rfl
  have q3 : oidx (Deed.count p r ps).d (.int 0) = .ok (.str "count") := rfl
  have q4 : oisi CS [.str] (.str "count") = .ok (.bl true) := rfl
  have q5 : oeq (.str "count") (.str "count") = .ok (.bl true) := rfl
  unfold m_is_deed
  rw [fn2]
  unfold b_is_deed
  generalize (Deed.count p r ps).d = X at *
  generalize nD k = K' at *
  simp [var, q, q1, q2, q3, q4, q5]
theorem is_deed_ok {k : Nat} {x : Deed} (h : x.ok k) : m_is_deed [x.d, nD k] = .ok (.bl true) := by
  cases x with
  | zero => exact deed_plain (s := "zero") (vs := []) rfl rfl rfl (by simp) (by simp)
  | ones => exact deed_plain (s := "ones") (vs := []) rfl rfl rfl (by simp) (by simp)
  | inv a => exact deed_plain (s := "not") (vs := [a]) rfl rfl rfl (by simpa [Deed.ok] using h) (by simp)
  | and a b => exact deed_plain (s := "and") (vs := [a, b]) rfl rfl rfl (by simpa [Deed.ok] using h) (by simp)
  | or a b => exact deed_plain (s := "or") (vs := [a, b]) rfl rfl rfl (by simpa [Deed.ok] using h) (by simp)
  | xor a b => exact deed_plain (s := "xor") (vs := [a, b]) rfl rfl rfl (by simpa [Deed.ok] using h) (by simp)
  | shift a => exact deed_plain (s := "shift") (vs := [a]) rfl rfl rfl (by simpa [Deed.ok] using h) (by simp)
  | minus a => exact deed_plain (s := "minus") (vs := [a]) rfl rfl rfl (by simpa [Deed.ok] using h) (by simp)
  | add a b => exact deed_plain (s := "add") (vs := [a, b]) rfl rfl rfl (by simpa [Deed.ok] using h) (by simp)
  | sub a b => exact deed_plain (s := "sub") (vs := [a, b]) rfl rfl rfl (by simpa [Deed.ok] using h) (by simp)
  | count p r ps => exact deed_count h.1 h.2.1 h.2.2.1 h.2.2.2.1 h.2.2.2.2
theorem row_loop {n : Nat} {xs : List Deed} (hr : Row n xs) {S I O T : D} (hI : I = nD n) : ∃ e', forL (forB (gtup [(gnm 5), (gnm 6)]) (Py.ite (notT (tst (call m_is_deed (argC (var 6) (argC (bin oadd (var 1) (var 5)) argN))))) (rais "InvalidRow" ["part", "place"] (argC (cst (.str "deeds")) (argC (var 5) argN))) skip)) (enumL 0 (xs.map Deed.d)) [some S, some I, some T, some O, some T, none, none] = .ok (.next e') ∧
    ∃ o5 o6, e' = [some S, some I, some T, some O, some T, o5, o6] := by
  refine forL_inv (fun k e => ∃ o5 o6, e = [some S, some I, some T, some O, some T, o5, o6]) 0 ⟨none, none, rfl⟩ ?_
  rintro k e hk ⟨o5, o6, rfl⟩
  have hk2 : k < xs.length := by
    rw [enum_len, List.length_map] at hk
    exact hk
  have q := is_deed_ok (hr k hk2)
  have q2 : oadd I (.int (k : Int)) = .ok (nD (n + k)) := by
    rw [hI]
    unfold nD
    rw [oadd_ii]
    simp
  rw [enum_at hk (by simpa using hk2), List.getElem_map, Nat.zero_add]
  generalize nD (n + k) = Z at *
  generalize hX : xs[k].d = X at *
  generalize (k : Int) = z at *
  exact ⟨[some S, some I, some T, some O, some T, some (.int z), some X], by simp [var, gtup, gtupL, q, q2], _, _, rfl⟩
theorem row_made {n out : Nat} {xs : List Deed} (h1 : 1 ≤ n) (h3 : n ≤ 3) (hr : Row n xs) (hz : xs.length ≤ 5000) (ho : out < n + xs.length) : m_Row [nD n, .tup (xs.map Deed.d), nD out] = .ok (rowD n xs out) := by
  have q1 := inputs_ok h1 h3
  have q2 : m_as_tuple [.tup (xs.map Deed.d)] = .ok (.tup (xs.map Deed.d)) := by
    have h : oisi CS [.lst, .tup] (.tup (xs.map Deed.d)) = .ok (.bl true) := rfl
    unfold m_as_tuple
    rw [fn1]
    unfold b_as_tuple
    generalize xs.map Deed.d = Z at *
    simp [var, h]
  have q3 : oisN (.tup (xs.map Deed.d)) = .ok (.bl false) := rfl
  obtain ⟨e', q4, o5, o6, rfl⟩ := row_loop (S := .ins "Row" []) (O := nD out) (T := .tup (xs.map Deed.d)) hr (I := nD n) rfl
  have q5 := is_below_ok out (n + xs.length)
  rw [decide_eq_true ho] at q5
  have q6 : oadd (nD n) (.int ((xs.map Deed.d).length : Int)) = .ok (nD (n + xs.length)) := by
    unfold nD
    rw [oadd_ii, List.length_map]
    simp
  have q7 : ienum (var 4) [some (.ins "Row" []), some (nD n), some (.tup (xs.map Deed.d)), some (nD out), some (.tup (xs.map Deed.d)), none, none] = .ok (enumL 0 (xs.map Deed.d)) := rfl
  have key : b_Row_init [some (.ins "Row" []), some (nD n), some (.tup (xs.map Deed.d)), some (nD out), none, none, none] = .ok (.next [some (rowD n xs out), some (nD n), some (.tup (xs.map Deed.d)), some (nD out), some (.tup (xs.map Deed.d)), o5, o6]) := by
    unfold b_Row_init rowD
    generalize xs.map Deed.d = Z at *
    generalize nD (n + xs.length) = M at *
    generalize nD n = N at *
    generalize nD out = U at *
    simp [var, q1, q2, q3, q4, q5, q6, q7, setF, putF]
  exact made_eq rfl key
theorem tops_le {n : Nat} {xs : List Deed} (hr : Row n xs) : ∀ t ∈ tops xs, 0 < t ∧ t ≤ 5 := fun t ht => by
  obtain ⟨x, hx, rfl⟩ := List.mem_map.mp ht
  have hx' := (List.mem_filter.mp hx).1
  refine ⟨?_, top5 hr x hx'⟩
  obtain ⟨k, hk⟩ := filt_ok hr x hx
  cases x with
  | count p r ps =>
    have := hk.2.1
    show 0 < p
    omega
  | _ =>
    show 0 < 2
    decide
theorem Row.snoc {n : Nat} {xs : List Deed} {x : Deed} (hr : Row n xs) (hx : x.ok (n + xs.length)) : Row n (xs ++ [x]) := fun k hk => by
  by_cases h : k < xs.length
  · rw [List.getElem_append_left h]
    exact hr k h
  · have e : k = xs.length := by
      simp at hk
      omega
    subst e
    simpa using hx
end Py.U
namespace Py.U
open PySem
theorem bnot_nat (a : Nat) : Builtin.bitNot (Builtin.bitNot (a : Int)) = (a : Int) := by
  show -(-(a : Int) - 1) - 1 = (a : Int)
  omega
theorem nand (a b : Nat) : oand (nD a) (nD b) = .ok (nD (a &&& b)) := by
  unfold nD
  rw [oand_ii]
  rfl
theorem bor_nat (a b : Nat) : Builtin.bitOr (a : Int) (b : Int) = ((a ||| b : Nat) : Int) := by
  have h1 : Builtin.bitNot (a : Int) = Int.negSucc a := by
    show -(a : Int) - 1 = Int.negSucc a
    rw [Int.negSucc_eq]
    omega
  have h2 : Builtin.bitNot (b : Int) = Int.negSucc b := by
    show -(b : Int) - 1 = Int.negSucc b
    rw [Int.negSucc_eq]
    omega
  show Builtin.bitNot (Builtin.bitAnd (Builtin.bitNot (a : Int)) (Builtin.bitNot (b : Int))) = _
  rw [h1, h2]
  have e : Builtin.bitAnd (Int.negSucc a) (Int.negSucc b) = Builtin.bitNot ((a ||| b : Nat) : Int) := by
    show Builtin.bitNot (((Builtin.bitNot (Int.negSucc a)).toNat ||| (Builtin.bitNot (Int.negSucc b)).toNat : Nat) : Int) = _
    have e1 : (Builtin.bitNot (Int.negSucc a)).toNat = a := by
      rw [← h1, bnot_nat, Int.toNat_natCast]
    have e2 : (Builtin.bitNot (Int.negSucc b)).toNat = b := by
      rw [← h2, bnot_nat, Int.toNat_natCast]
    rw [e1, e2]
  rw [e, bnot_nat]
theorem or_split : ∀ (n a b : Nat), a < 2 ^ n → b < 2 ^ n → (a ||| b) = (a ^^^ b) + (a &&& b)
  | 0, a, b, ha, hb => by
    have e1 : a = 0 := by
      simp at ha
      exact ha
    have e2 : b = 0 := by
      simp at hb
      exact hb
    subst e1 e2
    rfl
  | n + 1, a, b, ha, hb => by
    have hp := Nat.pow_succ 2 n
    have ih := or_split n (a / 2) (b / 2) (by omega) (by omega)
    have d1 := Nat.or_div_two (a := a) (b := b)
    have d2 := Nat.xor_div_two (a := a) (b := b)
    have d3 := Nat.and_div_two (a := a) (b := b)
    have b0 : ∀ n : Nat, bt n 0 = n % 2 := fun n => by
      unfold bt
      simp
    have t1 := bt_or a b 0
    have t2 := bt_xor a b 0
    have t3 := bt_and a b 0
    rw [b0, b0, b0] at t1 t2 t3
    have m1 : (a ||| b) % 2 = (a ^^^ b) % 2 + (a &&& b) % 2 := by
      rcases Nat.mod_two_eq_zero_or_one a with h1 | h1 <;> rcases Nat.mod_two_eq_zero_or_one b with h2 | h2 <;> rw [h1, h2] at t1 t2 t3 <;> split at t1 <;> split at t2 <;> split at t3 <;> omega
    omega
theorem nor (a b : Nat) : oor (nD a) (nD b) = .ok (nD (a ||| b)) := by
  unfold nD
  show Res.ok (D.int (Builtin.bitOr _ _)) = _
  rw [bor_nat]
theorem bxor_nat (a b : Nat) : Builtin.bitXor (a : Int) (b : Int) = ((a ^^^ b : Nat) : Int) := by
  show Builtin.bitOr (a : Int) (b : Int) - Builtin.bitAnd (a : Int) (b : Int) = _
  rw [bor_nat]
  have e : Builtin.bitAnd (a : Int) (b : Int) = ((a &&& b : Nat) : Int) := rfl
  rw [e]
  have h := or_split (a + b) a b (Nat.lt_of_lt_of_le Nat.lt_two_pow_self (Nat.pow_le_pow_right (by decide) (by omega))) (Nat.lt_of_lt_of_le Nat.lt_two_pow_self (Nat.pow_le_pow_right (by decide) (by omega)))
  omega
theorem nxor (a b : Nat) : oxor (nD a) (nD b) = .ok (nD (a ^^^ b)) := by
  unfold nD
  show Res.ok (D.int (Builtin.bitXor _ _)) = _
  rw [bxor_nat]
/-! ### lanes -/
/-! ### one tuple of marks at all letters -/
def nx1 (n : Nat) (xs : List Deed) (ms : List Nat) (l : Nat) : List Nat := (runD ms (lb n l) xs).2
theorem stp_m {ms : List Nat} {s : St} {x : Deed} (h : x.marked = true) : stp ms s x = (s.1 ++ [x.bit1 s.1 (ms.getD s.2.length 0)], s.2 ++ [x.next s.1 (ms.getD s.2.length 0)]) := by
  unfold stp
  rw [h, if_pos rfl]
theorem stp_u {ms : List Nat} {s : St} {x : Deed} (h : x.marked = false) : stp ms s x = (s.1 ++ [x.bit0 s.1], s.2) := by
  unfold stp
  rw [h]
  rfl
/-! ### count_zeros -/
theorem cast_sum {β : Type} (f : β → Nat) : ∀ ys : List β, (ys.map fun y => ((f y : Nat) : Int)).sum = (((ys.map f).sum : Nat) : Int)
  | [] => rfl
  | y :: ys => by
    rw [List.map_cons, List.map_cons, List.sum_cons, List.sum_cons, cast_sum f ys]
    omega
theorem nsum {β : Type} (f : β → Nat) (ys : List β) : bsum (.lst (ys.map fun y => nD (f y))) = .ok (nD (ys.map f).sum) := by
  have := sum_map (fun y => ((f y : Nat) : Int)) ys
  rw [cast_sum] at this
  exact this
/-! ### the law's own step -/
def stC : SM := (seq (asg (gnm 9) (cst (.int 0)))
  (seq (Py.ite (tst (bin ogt (un blen (var 6)) (cst (.int 2)))) (asg (gnm 9) (bin oidx (var 4) (bin oidx (var 6) (cst (.int 2))))) skip)
  (seq (asg (gtup [(gnm 10), (gnm 8)]) (call m_law_mark (argC (var 7) (argC (bin oidx (var 2) (un blen (var 5))) (argC (bin oidx (var 4) (bin oidx (var 6) (cst (.int 1)))) (argC (var 9) argN))))))
  (seq (app 4 (var 10))
  (app 5 (var 8))))))
def stN : SM := (seq (asg (gnm 8) (bin oidx (var 2) (un blen (var 5))))
  (seq (app 4 (un bint (bin oeq (var 8) (bin oidx (var 6) (cst (.int 2))))))
  (app 5 (bin omod (un bint (bin oadd (var 8) (un bsum (lcE (iseq (bin oidx (var 6) (cst (.int 3)))) [12] (gnm 12) yes (bin oidx (var 4) (var 12)))))) (bin oidx (var 6) (cst (.int 1)))))))
def stepB : SM := (seq (asg (gnm 7) (bin oidx (var 6) (cst (.int 0))))
  (Py.ite (tst (bin oeq (var 7) (cst (.str "not")))) (app 4 (bin osub (cst (.int 1)) (bin oidx (var 4) (bin oidx (var 6) (cst (.int 1)))))) (Py.ite (tst (bin oeq (var 7) (cst (.str "and")))) (app 4 (bin oand (bin oidx (var 4) (bin oidx (var 6) (cst (.int 1)))) (bin oidx (var 4) (bin oidx (var 6) (cst (.int 2)))))) (Py.ite (tst (bin oeq (var 7) (cst (.str "or")))) (app 4 (bin oor (bin oidx (var 4) (bin oidx (var 6) (cst (.int 1)))) (bin oidx (var 4) (bin oidx (var 6) (cst (.int 2)))))) (Py.ite (tst (bin oeq (var 7) (cst (.str "xor")))) (app 4 (bin oxor (bin oidx (var 4) (bin oidx (var 6) (cst (.int 1)))) (bin oidx (var 4) (bin oidx (var 6) (cst (.int 2)))))) (Py.ite (tst (bin oin (var 7) (tupE (argC (cst (.str "zero")) (argC (cst (.str "ones")) argN))))) (app 4 (un bint (bin oeq (var 7) (cst (.str "ones"))))) (Py.ite (tst (bin oeq (var 7) (cst (.str "count")))) stN stC)))))))
theorem oge_n (t : Nat) (k : Nat) : oge (nD t) (nD k) = .ok (.bl (decide (k ≤ t))) := by
  unfold nD
  rw [oge_ii]
  congr 2
  exact decide_eq_decide.mpr (by omega)
theorem olt_n (t k : Nat) : olt (nD t) (nD k) = .ok (.bl (decide (t < k))) := oltN t k
theorem bint_d (c : Prop) [Decidable c] : bint (.bl (decide c)) = .ok (nD (if c then 1 else 0)) := by
  by_cases h : c
  · rw [if_pos h, decide_eq_true h]; rfl
  · rw [if_neg h, decide_eq_false h]; rfl
theorem mark_shift (m a b : Nat) : m_law_mark [.str "shift", nD m, nD a, nD b] = .ok (.tup [nD m, nD a]) := rfl
theorem mark_minus (m a : Nat) : m_law_mark [.str "minus", nD m, nD a, nD 0] = .ok (.tup [nD ((a + m) % 2), nD (if 1 ≤ a + m then 1 else 0)]) := by
  have h1 := nadd a 0
  have h2 := nadd (a + 0) m
  have h3 := bitN2 (a + 0 + m)
  have h4 := oge_n (a + 0 + m) 1
  have h5 := bint_d (1 ≤ a + 0 + m)
  rw [Nat.add_zero] at h1 h2 h3 h4 h5
  have s : ∀ a b, oeq (.str a) (.str b) = .ok (.bl (a == b)) := fun _ _ => rfl
  have h4' : oge (nD (a + m)) (.int 1) = _ := h4
  unfold m_law_mark
  rw [fn4]
  unfold b__law_mark
  generalize nD (if 1 ≤ a + m then 1 else 0) = T1 at *
  generalize nD ((a + m) % 2) = T2 at *
  generalize nD (a + m) = T3 at *
  generalize nD a = A at *
  generalize nD m = MM at *
  generalize nD 0 = Z at *
  generalize decide (1 ≤ a + m) = DD at *
  simp [var, s, h1, h2, h3, h4', h5]
theorem mark_add (m a b : Nat) : m_law_mark [.str "add", nD m, nD a, nD b] = .ok (.tup [nD ((a + b + m) % 2), nD (if 2 ≤ a + b + m then 1 else 0)]) := by
  have h1 := nadd a b
  have h2 := nadd (a + b) m
  have h3 := bitN2 (a + b + m)
  have h4' : oge (nD (a + b + m)) (.int 2) = _ := oge_n (a + b + m) 2
  have h5 := bint_d (2 ≤ a + b + m)
  have s : ∀ a b, oeq (.str a) (.str b) = .ok (.bl (a == b)) := fun _ _ => rfl
  unfold m_law_mark
  rw [fn4]
  unfold b__law_mark
  generalize nD (if 2 ≤ a + b + m then 1 else 0) = T1 at *
  generalize nD ((a + b + m) % 2) = T2 at *
  generalize nD (a + b + m) = T3 at *
  generalize nD (a + b) = T4 at *
  generalize nD a = A at *
  generalize nD m = MM at *
  generalize nD b = Z at *
  generalize decide (2 ≤ a + b + m) = DD at *
  simp [var, s, h1, h2, h3, h4', h5]
theorem mark_sub (m a b : Nat) : m_law_mark [.str "sub", nD m, nD a, nD b] = .ok (.tup [nD ((a + b + m) % 2), nD (if a < b + m then 1 else 0)]) := by
  have h1 := nadd a b
  have h2 := nadd (a + b) m
  have h6 := nadd b m
  have h3 := bitN2 (a + b + m)
  have h4' := olt_n a (b + m)
  have h5 := bint_d (a < b + m)
  have s : ∀ a b, oeq (.str a) (.str b) = .ok (.bl (a == b)) := fun _ _ => rfl
  unfold m_law_mark
  rw [fn4]
  unfold b__law_mark
  generalize nD (if a < b + m then 1 else 0) = T1 at *
  generalize nD ((a + b + m) % 2) = T2 at *
  generalize nD (a + b + m) = T3 at *
  generalize nD (a + b) = T4 at *
  generalize nD (b + m) = T5 at *
  generalize nD a = A at *
  generalize nD m = MM at *
  generalize nD b = Z at *
  generalize decide (a < b + m) = DD at *
  simp [var, s, h1, h2, h6, h3, h4', h5]
theorem and_bit {a b : Nat} (ha : a = 0 ∨ a = 1) (hb : b = 0 ∨ b = 1) : (a &&& b) = if a + b = 2 then 1 else 0 := by rcases ha with rfl | rfl <;> rcases hb with rfl | rfl <;> rfl
theorem or_bit {a b : Nat} (ha : a = 0 ∨ a = 1) (hb : b = 0 ∨ b = 1) : (a ||| b) = if 0 < a + b then 1 else 0 := by rcases ha with rfl | rfl <;> rcases hb with rfl | rfl <;> rfl
theorem xor_bitN {a b : Nat} (ha : a = 0 ∨ a = 1) (hb : b = 0 ∨ b = 1) : (a ^^^ b) = if a = b then 0 else 1 := by rcases ha with rfl | rfl <;> rcases hb with rfl | rfl <;> rfl
theorem sub1 {a : Nat} (ha : a = 0 ∨ a = 1) : osub (.int 1) (nD a) = .ok (nD (1 - a)) := by rcases ha with rfl | rfl <;> rfl
abbrev zz : D := .tup [.str "zero", .str "ones"]
theorem step_plain {bs : List Nat} (hb : Bits bs) {x : Deed} (hm : x.marked = false) (hx : x.ok bs.length) {N DS MS LT : D} {Af : List D} (hz : bs.length < 10000) (o7 o8 o9 o10 : Option D) :
    stepB [some N, some DS, some MS, some LT, some (.lst (bs.map nD)), some (.lst Af), some x.d, o7, o8, o9, o10, none, none] = .ok (.next [some N, some DS, some MS, some LT, some (.lst ((bs ++ [x.bit0 bs]).map nD)), some (.lst Af), some x.d, some (.str x.name), o8, o9, o10, none, none]) := by
  have hz' : (bs.map nD).length < SZ := by rw [List.length_map]; exact Nat.lt_trans hz (by decide)
  have s : ∀ a b, oeq (.str a) (.str b) = .ok (.bl (a == b)) := fun _ _ => rfl
  rw [List.map_append]
  unfold stepB
  cases x with
  | zero =>
    have i0 : oin (.str "zero") zz = .ok (.bl true) := rfl
    show _ = Res.ok (Fl.next [_, _, _, _, some (.lst (_ ++ [.int 0])), _, _, _, _, _, _, _, _])
    generalize bs.map nD = L at *
    simp [var, Deed.d, Deed.name, ixt0, s, i0, hz', b2i]
  | ones =>
    have i0 : oin (.str "ones") zz = .ok (.bl true) := rfl
    show _ = Res.ok (Fl.next [_, _, _, _, some (.lst (_ ++ [.int 1])), _, _, _, _, _, _, _, _])
    generalize bs.map nD = L at *
    simp [var, Deed.d, Deed.name, ixt0, s, i0, hz', b2i]
  | inv a =>
    have h := bits_at (bs := bs) hx
    have q := sub1 (at0_01 hb a)
    show _ = Res.ok (Fl.next [_, _, _, _, some (.lst (_ ++ [nD (1 - at0 bs a)])), _, _, _, _, _, _, _, _])
    generalize nD (1 - at0 bs a) = u at *
    generalize nD (at0 bs a) = v at *
    generalize bs.map nD = L at *
    simp [var, Deed.d, Deed.name, ixt0, ixt1, s, h, q, hz']
  | and a b =>
    have h := bits_at (bs := bs) hx.1
    have h' := bits_at (bs := bs) hx.2
    have q := nand (at0 bs a) (at0 bs b)
    rw [and_bit (at0_01 hb a) (at0_01 hb b)] at q
    show _ = Res.ok (Fl.next [_, _, _, _, some (.lst (_ ++ [nD (if at0 bs a + at0 bs b = 2 then 1 else 0)])), _, _, _, _, _, _, _, _])
    generalize nD (if at0 bs a + at0 bs b = 2 then 1 else 0) = u at *
    generalize nD (at0 bs a) = v at *
    generalize nD (at0 bs b) = w at *
    generalize bs.map nD = L at *
    simp [var, Deed.d, Deed.name, ixt0, ixt1, ixt2, s, h, h', q, hz']
  | or a b =>
    have h := bits_at (bs := bs) hx.1
    have h' := bits_at (bs := bs) hx.2
    have q := nor (at0 bs a) (at0 bs b)
    rw [or_bit (at0_01 hb a) (at0_01 hb b)] at q
    show _ = Res.ok (Fl.next [_, _, _, _, some (.lst (_ ++ [nD (if 0 < at0 bs a + at0 bs b then 1 else 0)])), _, _, _, _, _, _, _, _])
    generalize nD (if 0 < at0 bs a + at0 bs b then 1 else 0) = u at *
    generalize nD (at0 bs a) = v at *
    generalize nD (at0 bs b) = w at *
    generalize bs.map nD = L at *
    simp [var, Deed.d, Deed.name, ixt0, ixt1, ixt2, s, h, h', q, hz']
  | xor a b =>
    have h := bits_at (bs := bs) hx.1
    have h' := bits_at (bs := bs) hx.2
    have q := nxor (at0 bs a) (at0 bs b)
    rw [xor_bitN (at0_01 hb a) (at0_01 hb b)] at q
    show _ = Res.ok (Fl.next [_, _, _, _, some (.lst (_ ++ [nD (if at0 bs a = at0 bs b then 0 else 1)])), _, _, _, _, _, _, _, _])
    generalize nD (if at0 bs a = at0 bs b then 0 else 1) = u at *
    generalize nD (at0 bs a) = v at *
    generalize nD (at0 bs b) = w at *
    generalize bs.map nD = L at *
    simp [var, Deed.d, Deed.name, ixt0, ixt1, ixt2, s, h, h', q, hz']
  | _ => cases hm
def Deed.two (bs : List Nat) : Deed → Nat
  | .add _ b => at0 bs b
  | .sub _ b => at0 bs b
  | _ => 0
theorem mark_ok {bs : List Nat} {x : Deed} (hm : x.marked = true) (hc : x.isCount = false) (m : Nat) : m_law_mark [.str x.name, nD m, nD (at0 bs x.one), nD (x.two bs)] = .ok (.tup [nD (x.bit1 bs m), nD (x.next bs m)]) := by
  cases x with
  | shift a => exact mark_shift m (at0 bs a) 0
  | minus a => exact mark_minus m (at0 bs a)
  | add a b => exact mark_add m (at0 bs a) (at0 bs b)
  | sub a b => exact mark_sub m (at0 bs a) (at0 bs b)
  | count p r ps => cases hc
  | _ => cases hm
theorem two_ok {bs : List Nat} {x : Deed} (hm : x.marked = true) (hc : x.isCount = false) (hx : x.ok bs.length) {N DS MS LT : D} {Af : List D} (o7 o8 o10 : Option D) :
    Py.ite (tst (bin ogt (un blen (var 6)) (cst (.int 2)))) (asg (gnm 9) (bin oidx (var 4) (bin oidx (var 6) (cst (.int 2))))) skip [some N, some DS, some MS, some LT, some (.lst (bs.map nD)), some (.lst Af), some x.d, o7, o8, some (.int 0), o10, none, none] = .ok (.next [some N, some DS, some MS, some LT, some (.lst (bs.map nD)), some (.lst Af), some x.d, o7, o8, some (nD (x.two bs)), o10, none, none]) := by
  cases x with
  | shift a => rfl
  | minus a => rfl
  | add a b =>
    have h := bits_at (bs := bs) hx.2
    show _ = Res.ok (Fl.next [_, _, _, _, _, _, _, _, _, some (nD (at0 bs b)), _, _, _])
    generalize nD (at0 bs b) = v at *
    generalize bs.map nD = L at *
    simp [var, Deed.d, ixt2, h]
  | sub a b =>
    have h := bits_at (bs := bs) hx.2
    show _ = Res.ok (Fl.next [_, _, _, _, _, _, _, _, _, some (nD (at0 bs b)), _, _, _])
    generalize nD (at0 bs b) = v at *
    generalize bs.map nD = L at *
    simp [var, Deed.d, ixt2, h]
  | count p r ps => cases hc
  | _ => cases hm
theorem step_carry {bs : List Nat} {x : Deed} (hm : x.marked = true) (hc : x.isCount = false) (hx : x.ok bs.length) {N DS MS LT : D} {Af : List D} {m : Nat} (ha : oidx MS (.int (Af.length : Int)) = .ok (nD m)) (hz : bs.length < 10000) (hzf : Af.length < 10000) (o7 o8 o9 o10 : Option D) :
    ∃ o8' o9' o10', stepB [some N, some DS, some MS, some LT, some (.lst (bs.map nD)), some (.lst Af), some x.d, o7, o8, o9, o10, none, none] = .ok (.next [some N, some DS, some MS, some LT, some (.lst ((bs ++ [x.bit1 bs m]).map nD)), some (.lst (Af ++ [nD (x.next bs m)])), some x.d, some (.str x.name), o8', o9', o10', none, none]) := by
  have hz' : (bs.map nD).length < SZ := by rw [List.length_map]; exact Nat.lt_trans hz (by decide)
  have hzf' : Af.length < SZ := Nat.lt_trans hzf (by decide)
  have hn := deed_name x
  have nn := carry_names hm hc
  have s : ∀ a b, oeq (.str a) (.str b) = .ok (.bl (a == b)) := fun _ _ => rfl
  have iz : oin (.str x.name) zz = .ok (.bl false) := by
    cases x <;> first | rfl | cases hm | cases hc
  have c1 := (carry_one hm hc).1
  have h1 := bits_at (bs := bs) (carry_in hm hc hx).1
  have t2 := two_ok (N := N) (DS := DS) (MS := MS) (LT := LT) (Af := Af) hm hc hx (some (.str x.name)) o8 o10
  have mk := mark_ok (bs := bs) hm hc m
  refine ⟨some (nD (x.next bs m)), some (nD (x.two bs)), some (nD (x.bit1 bs m)), ?_⟩
  rw [List.map_append]
  show _ = Res.ok (Fl.next [_, _, _, _, some (.lst (_ ++ [nD (x.bit1 bs m)])), _, _, _, _, _, _, _, _])
  have hC : stC [some N, some DS, some MS, some LT, some (.lst (bs.map nD)), some (.lst Af), some x.d, some (.str x.name), o8, o9, o10, none, none] = .ok (.next [some N, some DS, some MS, some LT, some (.lst (bs.map nD ++ [nD (x.bit1 bs m)])), some (.lst (Af ++ [nD (x.next bs m)])), some x.d, some (.str x.name), some (nD (x.next bs m)), some (nD (x.two bs)), some (nD (x.bit1 bs m)), none, none]) := by
    unfold stC
    refine (asg_pass (d := .int 0) rfl).trans ?_
    refine (seq_next t2).trans ?_
    have hcl : call m_law_mark (argC (var 7) (argC (bin oidx (var 2) (un blen (var 5))) (argC (bin oidx (var 4) (bin oidx (var 6) (cst (.int 1)))) (argC (var 9) argN)))) [some N, some DS, some MS, some LT, some (.lst (bs.map nD)), some (.lst Af), some x.d, some (.str x.name), o8, some (nD (x.two bs)), o10, none, none] = .ok (.tup [nD (x.bit1 bs m), nD (x.next bs m)]) := by
      generalize nD (x.bit1 bs m) = u at *
      generalize nD (x.next bs m) = v at *
      generalize nD (x.two bs) = w at *
      generalize nD (at0 bs x.one) = y at *
      generalize nD m = mm at *
      generalize x.d = X at *
      generalize bs.map nD = L at *
      generalize nD x.one = ON at *
      simp [var, ha, c1, h1, mk]
    refine (seq_next (e' := [some N, some DS, some MS, some LT, some (.lst (bs.map nD)), some (.lst Af), some x.d, some (.str x.name), some (nD (x.next bs m)), some (nD (x.two bs)), some (nD (x.bit1 bs m)), none, none]) (by rw [asg_eq, hcl]; rfl)).trans ?_
    generalize nD (x.bit1 bs m) = u at *
    generalize nD (x.next bs m) = v at *
    generalize nD (x.two bs) = w at *
    generalize x.d = X at *
    generalize bs.map nD = L at *
    simp [var, hz', hzf']
  have n1 := nn "not" (by simp)
  have n2 := nn "and" (by simp)
  have n3 := nn "or" (by simp)
  have n4 := nn "xor" (by simp)
  have n5 := nn "count" (by simp)
  unfold stepB
  refine (asg_pass hn).trans ?_
  show Py.ite _ _ _ [some N, some DS, some MS, some LT, some (.lst (bs.map nD)), some (.lst Af), some x.d, some (.str x.name), o8, o9, o10, none, none] = _
  generalize nD (x.bit1 bs m) = u at *
  generalize nD (x.next bs m) = v at *
  generalize nD (x.two bs) = w at *
  generalize x.d = X at *
  generalize bs.map nD = L at *
  generalize x.name = NM at *
  simp [var, s, n1, n2, n3, n4, n5, iz, hC]
theorem step_count {bs : List Nat} {p r : Nat} {ps : List Nat} (hx : (Deed.count p r ps).ok bs.length) {N DS MS LT : D} {Af : List D} {m : Nat} (ha : oidx MS (.int (Af.length : Int)) = .ok (nD m)) (hz : bs.length < 10000) (hzf : Af.length < 10000) (o7 o8 o9 o10 : Option D) :
    ∃ o8', stepB [some N, some DS, some MS, some LT, some (.lst (bs.map nD)), some (.lst Af), some (Deed.count p r ps).d, o7, o8, o9, o10, none, none] = .ok (.next [some N, some DS, some MS, some LT, some (.lst ((bs ++ [(Deed.count p r ps).bit1 bs m]).map nD)), some (.lst (Af ++ [nD ((Deed.count p r ps).next bs m)])), some (Deed.count p r ps).d, some (.str "count"), o8', o9, o10, none, none]) := by
  obtain ⟨hp, hr, h1, h4, hps⟩ := hx
  have hz' : (bs.map nD).length < SZ := by rw [List.length_map]; exact Nat.lt_trans hz (by decide)
  have hz2 : (bs.map nD ++ [nD (if m = r then 1 else 0)]).length < SZ := by rw [List.length_append, List.length_map]; exact Nat.lt_of_le_of_lt (show bs.length + 1 ≤ 10000 by omega) (by decide)
  have hzf' : Af.length < SZ := Nat.lt_trans hzf (by decide)
  have s : ∀ a b, oeq (.str a) (.str b) = .ok (.bl (a == b)) := fun _ _ => rfl
  have iz : oin (.str "count") zz = .ok (.bl false) := rfl
  have em := nat_eq m r
  have bm := bint_d (m = r)
  have tb : tot (bs ++ [if m = r then 1 else 0]) ps = tot bs ps := by
    unfold tot
    congr 1
    refine List.map_congr_left fun a ha => ?_
    unfold at0
    rw [List.getD_eq_getElem?_getD, List.getD_eq_getElem?_getD, List.getElem?_append_left (hps a ha)]
  have lc : lcE (iseq (bin oidx (var 6) (cst (.int 3)))) [12] (gnm 12) yes (bin oidx (var 4) (var 12)) [some N, some DS, some MS, some LT, some (.lst (bs.map nD ++ [nD (if m = r then 1 else 0)])), some (.lst Af), some (Deed.count p r ps).d, some (.str "count"), some (nD m), o9, o10, none, none] = .ok (.lst (ps.map fun a => nD (at0 (bs ++ [if m = r then 1 else 0]) a))) := by
    refine lc_mapI (ys := ps) (k := nD) ?_ (le_sz (by omega)) fun a ha => ⟨_, rfl, ?_⟩
    · simp [var, Deed.d, ixt3]
    · have := bits_at (bs := bs ++ [if m = r then 1 else 0]) (a := a) (by rw [List.length_append]; have := hps a ha; simp; omega)
      rw [List.map_append, List.map_singleton] at this
      exact this
  have sm := nsum (at0 (bs ++ [if m = r then 1 else 0])) ps
  change bsum _ = .ok (nD (tot (bs ++ [if m = r then 1 else 0]) ps)) at sm
  rw [tb] at sm
  have ad := nadd m (tot bs ps)
  have md := nmod (m + tot bs ps) (p := p) (by rcases hp with rfl | rfl | rfl <;> omega)
  have bn := bint_n (m + tot bs ps)
  refine ⟨some (nD m), ?_⟩
  rw [List.map_append]
  show _ = Res.ok (Fl.next [_, _, _, _, some (.lst (_ ++ [nD (if m = r then 1 else 0)])), some (.lst (_ ++ [nD ((m + tot bs ps) % p)])), _, _, _, _, _, _, _])
  have hN : stN [some N, some DS, some MS, some LT, some (.lst (bs.map nD)), some (.lst Af), some (Deed.count p r ps).d, some (.str "count"), o8, o9, o10, none, none] = .ok (.next [some N, some DS, some MS, some LT, some (.lst (bs.map nD ++ [nD (if m = r then 1 else 0)])), some (.lst (Af ++ [nD ((m + tot bs ps) % p)])), some (Deed.count p r ps).d, some (.str "count"), some (nD m), o9, o10, none, none]) := by
    unfold stN
    refine (asg_pass (d := nD m) (by simp [var, ha])).trans ?_
    refine (seq_next (e' := [some N, some DS, some MS, some LT, some (.lst (bs.map nD ++ [nD (if m = r then 1 else 0)])), some (.lst Af), some (Deed.count p r ps).d, some (.str "count"), some (nD m), o9, o10, none, none]) ?_).trans ?_
    · generalize nD (if m = r then 1 else 0) = u at *
      generalize nD m = mm at *
      generalize bs.map nD = L at *
      generalize decide (m = r) = DD at *
      simp [var, Deed.d, ixt2, em, bm, hz']
    · rw [app_eq, var_eq (d := .lst Af) rfl, bind_ok]
      show (bin omod _ _ _ >>= _) = _
      have e : bin omod (un bint (bin oadd (var 8) (un bsum (lcE (iseq (bin oidx (var 6) (cst (.int 3)))) [12] (gnm 12) yes (bin oidx (var 4) (var 12)))))) (bin oidx (var 6) (cst (.int 1))) [some N, some DS, some MS, some LT, some (.lst (bs.map nD ++ [nD (if m = r then 1 else 0)])), some (.lst Af), some (Deed.count p r ps).d, some (.str "count"), some (nD m), o9, o10, none, none] = .ok (nD ((m + tot bs ps) % p)) := by
        rw [bin_eq, un_eq, bin_eq, un_eq, lc, bind_ok, sm]
        generalize nD ((m + tot bs ps) % p) = u at *
        generalize nD (m + tot bs ps) = v at *
        generalize nD (tot bs ps) = w at *
        generalize nD m = mm at *
        simp [var, Deed.d, ixt1, ad, bn, md]
      rw [e, bind_ok, if_pos hzf']
      rfl
  unfold stepB
  refine (asg_pass (d := .str "count") rfl).trans ?_
  show Py.ite _ _ _ [some N, some DS, some MS, some LT, some (.lst (bs.map nD)), some (.lst Af), some (Deed.count p r ps).d, some (.str "count"), o8, o9, o10, none, none] = _
  generalize (Deed.count p r ps).d = X at *
  generalize bs.map nD = L at *
  generalize nD (if m = r then 1 else 0) = u at *
  simp [var, s, iz, hN]
theorem law_loop {n : Nat} {ms : List Nat} {xs : List Deed} {bs : List Nat} {N LT DS : D} (hb : Bits bs) (hl : bs.length = n) (hf : Fit ms (tops xs)) (hr : Row n xs) (hz : n + xs.length ≤ 5000) :
    ∃ e', forL (forB (gnm 6) stepB) (xs.map Deed.d) [some N, some DS, some (.tup (ms.map nD)), some LT, some (.lst (bs.map nD)), some (.lst []), none, none, none, none, none, none, none] = .ok (.next e') ∧
      ∃ o6 o7 o8 o9 o10, At n ms xs xs.length (runD ms bs xs) ∧ e' = [some N, some DS, some (.tup (ms.map nD)), some LT, some (.lst ((runD ms bs xs).1.map nD)), some (.lst ((runD ms bs xs).2.map nD)), o6, o7, o8, o9, o10, none, none] := by
  have q := forL_inv (b := forB (gnm 6) stepB) (xs := xs.map Deed.d) (e := [some N, some DS, some (.tup (ms.map nD)), some LT, some (.lst (bs.map nD)), some (.lst []), none, none, none, none, none, none, none])
    (fun k e => ∃ o6 o7 o8 o9 o10, At n ms xs k ((xs.take k).foldl (stp ms) (bs, [])) ∧ e = [some N, some DS, some (.tup (ms.map nD)), some LT, some (.lst (((xs.take k).foldl (stp ms) (bs, [])).1.map nD)), some (.lst (((xs.take k).foldl (stp ms) (bs, [])).2.map nD)), o6, o7, o8, o9, o10, none, none]) 0
    ⟨none, none, none, none, none, ⟨hb, by simpa using hl, trivial, by simp [← hl]⟩, rfl⟩ (by
      rintro k e hk ⟨o6, o7, o8, o9, o10, A, rfl⟩
      have hk' : k < xs.length := by simpa using hk
      rw [Nat.zero_add] at A ⊢
      have ht : (xs.take (k + 1)).foldl (stp ms) (bs, []) = stp ms ((xs.take k).foldl (stp ms) (bs, [])) xs[k] := by
        rw [List.take_add_one, List.foldl_append]
        simp [hk']
      have A2 := A.step hf hr hk'
      rw [ht]
      generalize (xs.take k).foldl (stp ms) (bs, []) = s at *
      have hx := hr k hk'
      rw [← A.len] at hx
      have hfl := A.fit.len
      have htl : (tops (xs.take k)).length ≤ k := by
        unfold tops
        rw [List.length_map]
        exact Nat.le_trans (List.length_filter_le _ _) (by rw [List.length_take]; omega)
      have z1 : s.1.length < 10000 := by rw [A.len]; omega
      have z2 : (s.2.map nD).length < 10000 := by rw [List.length_map, hfl]; omega
      rw [List.getElem_map]
      show ∃ e', stepB [some N, some DS, some (.tup (ms.map nD)), some LT, some (.lst (s.1.map nD)), some (.lst (s.2.map nD)), some xs[k].d, o7, o8, o9, o10, none, none] = .ok (.next e') ∧ _
      cases hm : xs[k].marked with
      | false =>
        have e : stp ms s xs[k] = (s.1 ++ [xs[k].bit0 s.1], s.2) := stp_u hm
        rw [e] at A2 ⊢
        exact ⟨_, step_plain A.bits hm hx z1 o7 o8 o9 o10, _, _, _, _, _, A2, rfl⟩
      | true =>
        have hj : s.2.length < ms.length := by
          have := tops_at hk' hm
          have h2 : (tops (xs.take k)).length < (tops xs).length := by
            rcases Nat.lt_or_ge (tops (xs.take k)).length (tops xs).length with h | h
            · exact h
            · rw [List.getElem?_eq_none h] at this
              cases this
          rw [hf.len, hfl]
          exact h2
        have ha : oidx (.tup (ms.map nD)) (.int ((s.2.map nD).length : Int)) = .ok (nD (ms.getD s.2.length 0)) := by
          refine oidx_t (k := (s.2.map nD).length) ?_
          simp [hj]
        have e := stp_m (ms := ms) (s := s) hm
        rw [e] at A2 ⊢
        have e2 : (s.2 ++ [xs[k].next s.1 (ms.getD s.2.length 0)]).map nD = s.2.map nD ++ [nD (xs[k].next s.1 (ms.getD s.2.length 0))] := by rw [List.map_append]; rfl
        cases hc : xs[k].isCount with
        | false =>
          obtain ⟨o8', o9', o10', q⟩ := step_carry (N := N) (DS := DS) (LT := LT) hm hc hx ha z1 z2 o7 o8 o9 o10
          rw [← e2] at q
          exact ⟨_, q, _, _, _, _, _, A2, rfl⟩
        | true =>
          rcases deed_cases xs[k] with h | h | ⟨p, r, ps, h⟩
          · rw [hm] at h; cases h
          · rw [hc] at h; cases h.2
          · rw [h] at hx A2 ⊢
            rw [h] at e2
            obtain ⟨o8', q⟩ := step_count (N := N) (DS := DS) (LT := LT) hx ha z1 z2 o7 o8 o9 o10
            rw [← e2] at q
            exact ⟨_, q, _, _, _, _, _, A2, rfl⟩)
  rw [List.length_map, Nat.zero_add, List.take_length] at q
  exact q
theorem law_step_ok {n : Nat} {ms : List Nat} {xs : List Deed} (letter : Nat) (hf : Fit ms (tops xs)) (hr : Row n xs) (hz : n + xs.length ≤ 5000) (h3 : n ≤ 3) {DL : D} (hDL : DL = .lst (xs.map Deed.d) ∨ DL = .tup (xs.map Deed.d)) :
    m_law_step [nD n, DL, rD ms, nD letter] = .ok (.tup [.lst ((runD ms (lb n letter) xs).1.map nD), rD (nx1 n xs ms letter)]) := by
  obtain ⟨e', h1, o6, o7, o8, o9, o10, A, rfl⟩ := law_loop (N := nD n) (LT := nD letter) (DS := DL) (lb_bits n letter) (lb_len n letter) hf hr hz
  have hr0 : irng1 (var 0) [some (nD n), some (DL), some (.tup (ms.map nD)), some (nD letter), none, none, none, none, none, none, none, none, none] = .ok ((List.range n).map fun i => .int ((i : Nat) : Int)) := irng1_nat (by simp [var, nD]) (rng_lt (by omega))
  have hc : lcE (irng1 (var 0)) [11] (gnm 11) yes (bin oand (bin oshr (var 3) (var 11)) (cst (.int 1))) [some (nD n), some (DL), some (.tup (ms.map nD)), some (nD letter), none, none, none, none, none, none, none, none, none] = .ok (.lst ((lb n letter).map nD)) := by
    unfold lb
    rw [List.map_map]
    refine lc_mapI (k := fun i => .int ((i : Nat) : Int)) hr0 (by rw [List.length_range]; exact le_sz (by omega)) fun i _ => ?_
    have b1 := bitN1 letter i
    have b2 := bitN2 (letter / 2 ^ i)
    show ∃ e1, _ ∧ _ = Res.ok (nD (letter / 2 ^ i % 2))
    generalize nD (letter / 2 ^ i % 2) = u at *
    generalize nD (letter / 2 ^ i) = v at *
    change oshr (nD letter) (.int (i : Int)) = _ at b1
    generalize (i : Int) = z at *
    generalize nD letter = l at *
    exact ⟨_, rfl, by simp only [wipe]; simp [var, b1, b2]⟩
  show m_law_step [nD n, DL, .tup (ms.map nD), nD letter] = .ok (.tup [.lst ((runD ms (lb n letter) xs).1.map nD), .tup ((runD ms (lb n letter) xs).2.map nD)])
  clear A
  unfold m_law_step
  rw [fn4]
  show done (seq (asg (gnm 4) (lcE (irng1 (var 0)) [11] (gnm 11) yes (bin oand (bin oshr (var 3) (var 11)) (cst (.int 1)))))
    (seq (asg (gnm 5) (lstE argN)) (seq (for_ (iseq (var 1)) (gnm 6) stepB) (ret (tupE (argC (var 4) (argC (un btuple (var 5)) argN)))))) [some (nD n), some (DL), some (.tup (ms.map nD)), some (nD letter), none, none, none, none, none, none, none, none, none]) = _
  generalize (runD ms (lb n letter) xs).1.map nD = B at *
  generalize (runD ms (lb n letter) xs).2.map nD = Af at *
  generalize (lb n letter).map nD = L at *
  rcases hDL with rfl | rfl <;> (generalize hDS : xs.map Deed.d = DS at *; simp [hc, h1, var])
/-! ### weights -/
def Deed.wt (x : Deed) : Nat := if x.marked then x.top else 1
theorem weight_ok (x : Deed) : m_law_weight [x.d] = .ok (nD x.wt) := by
  cases x with
  | count p r ps =>
    show m_law_weight [.tup [.str "count", nD p, nD r, .tup (ps.map nD)]] = .ok (nD p)
    rfl
  | _ => rfl
theorem wt_gt {n : Nat} {x : Deed} (h : x.ok n) : decide (1 < x.wt) = x.marked := by
  unfold Deed.wt
  cases x with
  | count p r ps =>
    obtain ⟨hp, _⟩ := h
    show decide (1 < p) = true
    rcases hp with rfl | rfl | rfl <;> rfl
  | _ => rfl
end Py.U
namespace Py.U
open PySem
/-! ### equations of what is lent -/
theorem upX_ok {m : EM} {e : Env} {d : D} (h : m e = .ok d) : upX m e = .ok (d, e) := by unfold upX; rw [h]; rfl
theorem xaC_ok {a : XM} {r : XA} {e e1 e2 : Env} {d : D} {ds : List D} (h : a e = .ok (d, e1)) (k : r e1 = .ok (ds, e2)) : xaC a r e = .ok (d :: ds, e2) := by
  unfold xaC
  rw [h, bind_ok, k]
  rfl
theorem xaN_ok {e : Env} : xaN e = .ok ([], e) := rfl
theorem var_at {e : Env} {i : Nat} {d : D} (h : e[i]? = some (some d)) : var i e = .ok d := by unfold var; rw [h]
theorem lendX_ok {i : Nat} {f : List D → Res D} {a : XA} {e e1 : Env} {o0 o : D} {ds : List D} {d l : D} (h0 : e[i]? = some (some o0)) (ha : a e = .ok (ds, e1)) (h1 : e1[i]? = some (some o)) (hf : f (o :: ds) = .ok (.tup [d, l])) : lendX i f a e = .ok (d, e1.set i (some l)) := by
  unfold lendX
  rw [var_at h0, bind_ok, ha, bind_ok, var_at h1, bind_ok, hf]
  rfl
theorem lendM_ok {c m : String} {i : Nat} {f : List D → Res D} {a : XA} {e e1 : Env} {fs : List (String × D)} {o : D} {ds : List D} {d l : D} (h0 : e[i]? = some (some (.ins c fs))) (hm : (fs.lookup m).isNone = true) (ha : a e = .ok (ds, e1)) (h1 : e1[i]? = some (some o)) (hf : f (o :: ds) = .ok (.tup [d, l])) :
    lendM c m i f a e = .ok (d, e1.set i (some l)) := by
  unfold lendM
  rw [var_at h0, bind_ok]
  dsimp only
  rw [if_pos ⟨rfl, hm⟩]
  exact lendX_ok h0 ha h1 hf
theorem retL_ok {m : XM} {e e1 : Env} {d l : D} (h : m e = .ok (d, e1)) (h0 : e1[0]? = some (some l)) : retL m e = .ok (.ret (.tup [d, l])) := by
  unfold retL
  rw [h, bind_ok, var_at h0]
  rfl
theorem fnL_ok {p n : Nat} {body : SM} {ds : List D} {d : D} (hl : ds.length = p) (h : body (ds.map some ++ List.replicate (n - p) none) = .ok (.ret d)) : fnL p n body ds = .ok d := by
  unfold fnL
  rw [if_pos hl, h]
  rfl
/-! ### the maker -/
structure PM where
  ds : List Deed
  z : Option Nat
  f : Option Nat
def oD : Option Nat → D
  | none => .non
  | some k => nD k
def PM.d (n : Nat) (s : PM) : D := .ins "PlainMaker" [("inputs", nD n), ("deeds", .lst (s.ds.map Deed.d)), ("nought", oD s.z), ("full", oD s.f)]
abbrev MS := PM → Nat × PM
def mPut (n : Nat) (x : Deed) : MS := fun s => (n + s.ds.length, ⟨s.ds ++ [x], s.z, s.f⟩)
def mInv (n a : Nat) : MS := mPut n (.inv a)
def mAnd (n a b : Nat) : MS := mPut n (.and a b)
def mAdd (n a b : Nat) : MS := mPut n (.add a b)
def mDif (n a b : Nat) : MS := fun s => mInv n (mAdd n (mInv n a s).1 b (mInv n a s).2).1 (mAdd n (mInv n a s).1 b (mInv n a s).2).2
def mNor (n a b : Nat) : MS := fun s => mAnd n (mInv n a s).1 (mInv n b (mInv n a s).2).1 (mInv n b (mInv n a s).2).2
def mOr (n a b : Nat) : MS := fun s => mInv n (mNor n a b s).1 (mNor n a b s).2
def mNan (n a b : Nat) : MS := fun s => mInv n (mAnd n a b s).1 (mAnd n a b s).2
def mXor (n a b : Nat) : MS := fun s => mAnd n (mOr n a b s).1 (mNan n a b (mOr n a b s).2).1 (mNan n a b (mOr n a b s).2).2
def mZer (n : Nat) : MS := fun s => mAnd n 0 (mInv n 0 s).1 (mInv n 0 s).2
def mZero (n : Nat) : MS := fun s => match s.z with
  | some k => (k, s)
  | none => ((mZer n s).1, ⟨(mZer n s).2.ds, some (mZer n s).1, (mZer n s).2.f⟩)
def mOne (n : Nat) : MS := fun s => mInv n (mZero n s).1 (mZero n s).2
def mOnes (n : Nat) : MS := fun s => match s.f with
  | some k => (k, s)
  | none => ((mOne n s).1, ⟨(mOne n s).2.ds, (mOne n s).2.z, some (mOne n s).1⟩)
def mMin (n a : Nat) : MS := fun s => mInv n (mAdd n a (mOnes n s).1 (mOnes n s).2).1 (mAdd n a (mOnes n s).1 (mOnes n s).2).2
/-- what a method gives back -/
abbrev bk (n : Nat) (p : Nat × PM) : Res D := .ok (.tup [nD p.1, p.2.d n])
abbrev PMS := 100000
theorem pm_look (n : Nat) (s : PM) {m : String} (h : (([("inputs", nD n), ("deeds", .lst (s.ds.map Deed.d)), ("nought", oD s.z), ("full", oD s.f)] : List (String × D)).lookup m).isNone = true) {i : Nat} {e e1 : Env} {f : List D → Res D} {a : XA} {ds : List D} {s1 : PM} {p : Nat × PM}
    (h0 : e[i]? = some (some (s.d n))) (ha : a e = .ok (ds, e1)) (h1 : e1[i]? = some (some (s1.d n))) (hf : f (s1.d n :: ds) = bk n p) : lendM "PlainMaker" m i f a e = .ok (nD p.1, e1.set i (some (p.2.d n))) := lendM_ok h0 h ha h1 hf
theorem put_ok {n : Nat} {s : PM} (hz : s.ds.length < PMS) (x : Deed) : m_PlainMaker_put [s.d n, x.d] = bk n (mPut n x s) := by
  refine fnL_ok rfl ?_
  have hlt : (s.ds.map Deed.d).length < SZ := by rw [List.length_map]; exact Nat.lt_trans hz (by decide)
  have e1 : s.ds.map Deed.d ++ [x.d] = (s.ds ++ [x]).map Deed.d := by simp
  have hA : appF 0 "PlainMaker" "deeds" (var 1) [some (s.d n), some x.d] = .ok (.next [some ((mPut n x s).2.d n), some x.d]) := by
    unfold appF
    rw [var_at (d := s.d n) rfl, bind_ok]
    have : fldD "PlainMaker" "deeds" (s.d n) = .ok ([("inputs", nD n), ("deeds", .lst (s.ds.map Deed.d)), ("nought", oD s.z), ("full", oD s.f)], .lst (s.ds.map Deed.d)) := by
      unfold PM.d fldD
      dsimp only
      rw [if_pos ⟨rfl, by simp⟩]
      rfl
    rw [this, bind_ok]
    dsimp only
    rw [var_at (d := x.d) rfl, bind_ok, if_pos hlt, e1]
    rfl
  show b_PlainMaker_put [some (s.d n), some x.d] = _
  unfold b_PlainMaker_put seq
  rw [hA, bind_ok]
  dsimp only
  refine retL_ok (e1 := [some ((mPut n x s).2.d n), some x.d]) (upX_ok ?_) rfl
  have hl : ((mPut n x s).2.ds.map Deed.d).length = s.ds.length + 1 := by simp [mPut]
  have q1 : un (oattr ["PlainMaker"] "inputs") (var 0) [some ((mPut n x s).2.d n), some x.d] = .ok (nD n) := rfl
  have q2 : un blen (un (oattr ["PlainMaker"] "deeds") (var 0)) [some ((mPut n x s).2.d n), some x.d] = .ok (nD (s.ds.length + 1)) := by
    rw [← hl]
    rfl
  unfold bin
  rw [q1, bind_ok, q2, bind_ok, nadd, bind_ok]
  have : osub (nD (n + (s.ds.length + 1))) (nD 1) = .ok (nD (n + (s.ds.length + 1) - 1)) := nsub (by omega)
  exact this
theorem opp_ok {n : Nat} {s : PM} (hz : s.ds.length < PMS) (a : Nat) : m_PlainMaker_opposite [s.d n, nD a] = bk n (mInv n a s) :=
  fnL_ok rfl (retL_ok (pm_look n s rfl rfl (xaC_ok (upX_ok rfl) xaN_ok) rfl (put_ok hz (.inv a))) rfl)
theorem and_ok {n : Nat} {s : PM} (hz : s.ds.length < PMS) (a b : Nat) : m_PlainMaker_both_of [s.d n, nD a, nD b] = bk n (mAnd n a b s) :=
  fnL_ok rfl (retL_ok (pm_look n s rfl rfl (xaC_ok (upX_ok rfl) xaN_ok) rfl (put_ok hz (.and a b))) rfl)
theorem add_ok {n : Nat} {s : PM} (hz : s.ds.length < PMS) (a b : Nat) : m_PlainMaker_sum_of [s.d n, nD a, nD b] = bk n (mAdd n a b s) :=
  fnL_ok rfl (retL_ok (pm_look n s rfl rfl (xaC_ok (upX_ok rfl) xaN_ok) rfl (put_ok hz (.add a b))) rfl)
theorem put_len (n : Nat) (x : Deed) (s : PM) : (mPut n x s).2.ds.length = s.ds.length + 1 := by simp [mPut]
theorem dif_ok {n : Nat} {s : PM} (hz : s.ds.length + 9 < PMS) (a b : Nat) : m_PlainMaker_difference [s.d n, nD a, nD b] = bk n (mDif n a b s) := by
  have z1 : (mInv n a s).2.ds.length = s.ds.length + 1 := put_len n _ s
  have z2 : (mAdd n (mInv n a s).1 b (mInv n a s).2).2.ds.length = s.ds.length + 2 := (put_len n _ _).trans (by rw [z1])
  refine fnL_ok rfl (retL_ok (pm_look n s (s1 := (mAdd n (mInv n a s).1 b (mInv n a s).2).2) rfl rfl (xaC_ok (pm_look n s (s1 := (mInv n a s).2) rfl rfl (xaC_ok (pm_look n s rfl rfl (xaC_ok (upX_ok rfl) xaN_ok) rfl (opp_ok (by omega) a)) (xaC_ok (upX_ok rfl) xaN_ok)) rfl (add_ok (by omega) _ _)) xaN_ok) rfl (opp_ok (by omega) _)) rfl)
theorem or_ok {n : Nat} {s : PM} (hz : s.ds.length + 9 < PMS) (a b : Nat) : m_PlainMaker_either_of [s.d n, nD a, nD b] = bk n (mOr n a b s) := by
  have z1 : (mInv n a s).2.ds.length = s.ds.length + 1 := put_len n _ s
  have z2 : (mInv n b (mInv n a s).2).2.ds.length = s.ds.length + 2 := (put_len n _ _).trans (by rw [z1])
  have z3 : (mNor n a b s).2.ds.length = s.ds.length + 3 := (put_len n _ _).trans (by rw [z2])
  refine fnL_ok rfl (retL_ok (pm_look n s (s1 := (mNor n a b s).2) rfl rfl (xaC_ok (pm_look n s (s1 := (mInv n b (mInv n a s).2).2) rfl rfl (xaC_ok (pm_look n s rfl rfl (xaC_ok (upX_ok rfl) xaN_ok) rfl (opp_ok (by omega) a)) (xaC_ok (pm_look n (mInv n a s).2 rfl rfl (xaC_ok (upX_ok rfl) xaN_ok) rfl (opp_ok (by omega) b)) xaN_ok)) rfl (and_ok (by omega) _ _)) xaN_ok) rfl (opp_ok (by omega) _)) rfl)
theorem nan_len (n a b : Nat) (s : PM) : (mNan n a b s).2.ds.length = s.ds.length + 2 := (put_len n _ _).trans (congrArg (· + 1) (put_len n _ _))
theorem or_len (n a b : Nat) (s : PM) : (mOr n a b s).2.ds.length = s.ds.length + 4 := by simp [mOr, mNor, mInv, mAnd, put_len]
theorem xor_ok {n : Nat} {s : PM} (hz : s.ds.length + 9 < PMS) (a b : Nat) : m_PlainMaker_just_one [s.d n, nD a, nD b] = bk n (mXor n a b s) := by
  have z4 := or_len n a b s
  have z5 : (mAnd n a b (mOr n a b s).2).2.ds.length = s.ds.length + 5 := (put_len n _ _).trans (by rw [z4])
  have z6 := nan_len n a b (mOr n a b s).2
  refine fnL_ok rfl (retL_ok (pm_look n s (s1 := (mNan n a b (mOr n a b s).2).2) rfl rfl (xaC_ok (pm_look n s (s1 := s) rfl rfl (xaC_ok (upX_ok rfl) (xaC_ok (upX_ok rfl) xaN_ok)) rfl (or_ok hz a b)) (xaC_ok (pm_look n (mOr n a b s).2 (s1 := (mAnd n a b (mOr n a b s).2).2) rfl rfl (xaC_ok (pm_look n (mOr n a b s).2 rfl rfl (xaC_ok (upX_ok rfl) (xaC_ok (upX_ok rfl) xaN_ok)) rfl (and_ok (by omega) a b)) xaN_ok) rfl (opp_ok (by omega) _)) xaN_ok)) rfl (and_ok (by omega) _ _)) rfl)
theorem zero_ok {n : Nat} {s : PM} (hz : s.ds.length + 9 < PMS) : m_PlainMaker_zero [s.d n] = bk n (mZero n s) := by
  refine fnL_ok rfl ?_
  show b_PlainMaker_zero [some (s.d n)] = _
  unfold b_PlainMaker_zero
  obtain ⟨ds, z, f⟩ := s
  cases z with
  | some k => rfl
  | none =>
    have z1 : (mInv n 0 ⟨ds, none, f⟩).2.ds.length = ds.length + 1 := put_len n _ _
    have hS : setFX 0 ["PlainMaker"] "nought" (lendM "PlainMaker" "both_of" 0 m_PlainMaker_both_of (xaC (upX (cst (.int 0))) (xaC (lendM "PlainMaker" "opposite" 0 m_PlainMaker_opposite (xaC (upX (cst (.int 0))) xaN)) xaN))) [some (PM.d n ⟨ds, none, f⟩)] = .ok (.next [some ((mZero n ⟨ds, none, f⟩).2.d n)]) := by
      unfold setFX
      rw [pm_look n ⟨ds, none, f⟩ (s1 := (mInv n 0 ⟨ds, none, f⟩).2) (p := mZer n ⟨ds, none, f⟩) rfl rfl (xaC_ok (upX_ok (d := nD 0) rfl) (xaC_ok (pm_look n ⟨ds, none, f⟩ rfl rfl (xaC_ok (upX_ok (d := nD 0) rfl) xaN_ok) rfl (opp_ok (by have : ds.length + 9 < PMS := hz; show ds.length < PMS; omega) 0)) xaN_ok)) rfl (and_ok (by have : ds.length + 9 < PMS := hz; omega) _ _)]
      rfl
    have ht : tst (un oisN (un (oattr ["PlainMaker"] "nought") (var 0))) [some (PM.d n ⟨ds, none, f⟩)] = .ok true := rfl
    rw [ite_in ht hS]
    rfl
theorem zero_len (n : Nat) (s : PM) : s.ds.length ≤ (mZero n s).2.ds.length ∧ (mZero n s).2.ds.length ≤ s.ds.length + 2 := by
  obtain ⟨ds, z, f⟩ := s
  cases z with
  | some k => exact ⟨Nat.le_refl _, Nat.le_add_right _ _⟩
  | none =>
    simp [mZero, mZer, mAnd, mInv, put_len]
    omega
theorem ones_ok {n : Nat} {s : PM} (hz : s.ds.length + 19 < PMS) : m_PlainMaker_ones [s.d n] = bk n (mOnes n s) := by
  refine fnL_ok rfl ?_
  show b_PlainMaker_ones [some (s.d n)] = _
  unfold b_PlainMaker_ones
  obtain ⟨ds, z, f⟩ := s
  cases f with
  | some k => rfl
  | none =>
    have z1 := zero_len n ⟨ds, z, none⟩
    have hz' : ds.length + 19 < PMS := hz
    have hS : setFX 0 ["PlainMaker"] "full" (lendM "PlainMaker" "opposite" 0 m_PlainMaker_opposite (xaC (lendM "PlainMaker" "zero" 0 m_PlainMaker_zero xaN) xaN)) [some (PM.d n ⟨ds, z, none⟩)] = .ok (.next [some ((mOnes n ⟨ds, z, none⟩).2.d n)]) := by
      unfold setFX
      rw [pm_look n ⟨ds, z, none⟩ (s1 := (mZero n ⟨ds, z, none⟩).2) (p := mOne n ⟨ds, z, none⟩) rfl rfl (xaC_ok (pm_look n ⟨ds, z, none⟩ rfl rfl xaN_ok rfl (zero_ok (by show ds.length + 9 < PMS; omega))) xaN_ok) rfl (opp_ok (by have : (mZero n ⟨ds, z, none⟩).2.ds.length ≤ ds.length + 2 := z1.2; omega) _)]
      rfl
    have ht : tst (un oisN (un (oattr ["PlainMaker"] "full") (var 0))) [some (PM.d n ⟨ds, z, none⟩)] = .ok true := rfl
    rw [ite_in ht hS]
    rfl
end Py.U
namespace Py.U
open PySem
/-! ### what the maker's deeds compute -/
theorem at0_old {l r : List Nat} {i : Nat} (h : i < l.length) : at0 (l ++ r) i = at0 l i := by
  unfold at0
  rw [List.getD_eq_getElem?_getD, List.getD_eq_getElem?_getD, List.getElem?_append_left h]
theorem at0_new {l : List Nat} {v i : Nat} (h : l.length = i) : at0 (l ++ [v]) i = v := by
  unfold at0
  subst h
  simp
theorem runD_snoc (ms bs : List Nat) (xs : List Deed) (x : Deed) : runD ms bs (xs ++ [x]) = stp ms (runD ms bs xs) x := by
  unfold runD
  rw [List.foldl_append]
  rfl
/-- the marks of a row: of a count, its number -/
def kds (xs : List Deed) : List (Bool × Nat) := (xs.filter Deed.marked).map fun x => (x.isCount, x.top)
theorem kds_snoc (xs : List Deed) (x : Deed) : kds (xs ++ [x]) = if x.marked then kds xs ++ [(x.isCount, x.top)] else kds xs := by
  unfold kds
  rw [List.filter_append, List.map_append]
  cases h : x.marked <;> simp [h]
theorem kds_tops (xs : List Deed) : tops xs = (kds xs).map (·.2) := by
  unfold tops kds
  rw [List.map_map]
  rfl
/-- not, and, add, count -/
def Pl : Deed → Bool
  | .inv _ => true
  | .and _ _ => true
  | .add _ _ => true
  | .count _ _ _ => true
  | _ => false
def vl (ms bs : List Nat) (s : PM) (i : Nat) : Nat := at0 (runD ms bs s.ds).1 i
def mkr (ms bs : List Nat) (s : PM) : List Nat := (runD ms bs s.ds).2
structure Good (n : Nat) (ms bs : List Nat) (s : PM) : Prop where
  b0 : Bits bs
  l0 : bs.length = n
  bits : Bits (runD ms bs s.ds).1
  len : (runD ms bs s.ds).1.length = n + s.ds.length
theorem Good.v01 {n : Nat} {ms bs : List Nat} {s : PM} (g : Good n ms bs s) (i : Nat) : vl ms bs s i = 0 ∨ vl ms bs s i = 1 := at0_01 g.bits i
theorem Bits.snoc' {l : List Nat} {v : Nat} (h : Bits l) (hv : v = 0 ∨ v = 1) : Bits (l ++ [v]) := fun b hb => by
  rcases List.mem_append.mp hb with z | z
  · exact h b z
  · rw [List.mem_singleton.mp z]
    exact hv
/-- a maker's step that has no mark of its own, k deeds at most; what was within is kept -/
structure OpU (n : Nat) (s : PM) (r : Nat × PM) (v : (Nat → Nat) → Nat) (k : Nat) : Prop where
  row : Row n s.ds → Row n r.2.ds
  pl : (∀ x ∈ s.ds, Pl x = true) → ∀ x ∈ r.2.ds, Pl x = true
  tops : kds r.2.ds = kds s.ds
  len : s.ds.length ≤ r.2.ds.length ∧ r.2.ds.length ≤ s.ds.length + k
  lt : r.1 < n + r.2.ds.length
  z : r.2.z = s.z ∧ r.2.f = s.f
  sem : ∀ ms bs, Good n ms bs s → Good n ms bs r.2 ∧ (∀ i, i < n + s.ds.length → vl ms bs r.2 i = vl ms bs s i) ∧ vl ms bs r.2 r.1 = v (vl ms bs s) ∧ mkr ms bs r.2 = mkr ms bs s
theorem put_u {n : Nat} {s : PM} {x : Deed} (hm : x.marked = false) (hp : Pl x = true) (hx : x.ok (n + s.ds.length)) (v : (Nat → Nat) → Nat) (hv : ∀ bs : List Nat, x.bit0 bs = v (at0 bs)) : OpU n s (mPut n x s) v 1 := by
  refine ⟨fun hr => hr.snoc hx, fun h y hy => ?_, ?_, ⟨by simp [mPut], by simp [mPut]⟩, by simp [mPut], ⟨rfl, rfl⟩, fun ms bs g => ?_⟩
  · rcases List.mem_append.mp hy with z | z
    · exact h y z
    · rw [List.mem_singleton.mp z]
      exact hp
  · show kds (s.ds ++ [x]) = _
    rw [kds_snoc, hm]
    rfl
  · have e : runD ms bs (mPut n x s).2.ds = ((runD ms bs s.ds).1 ++ [x.bit0 (runD ms bs s.ds).1], (runD ms bs s.ds).2) := (runD_snoc ms bs s.ds x).trans (stp_u hm)
    refine ⟨⟨g.b0, g.l0, by rw [e]; exact g.bits.snoc' (bit0_01 g.bits x), by rw [e, List.length_append, g.len]; simp [mPut]; omega⟩, fun i hi => ?_, ?_, ?_⟩
    · unfold vl
      rw [e]
      exact at0_old (by rw [g.len]; exact hi)
    · unfold vl
      rw [e]
      exact (at0_new g.len).trans (hv _)
    · unfold mkr
      rw [e]
theorem inv_u {n a : Nat} {s : PM} (ha : a < n + s.ds.length) : OpU n s (mInv n a s) (fun v => 1 - v a) 1 := put_u (x := .inv a) rfl rfl ha _ fun bs => rfl
theorem and_u {n a b : Nat} {s : PM} (ha : a < n + s.ds.length) (hb : b < n + s.ds.length) : OpU n s (mAnd n a b s) (fun v => if v a + v b = 2 then 1 else 0) 1 := put_u (x := .and a b) rfl rfl ⟨ha, hb⟩ _ fun bs => rfl
/-- one step behind another -/
theorem OpU.trans {n : Nat} {s : PM} {r r' : Nat × PM} {v v' w : (Nat → Nat) → Nat} {k k' : Nat} (h : OpU n s r v k) (h' : OpU n r.2 r' v' k')
    (hw : ∀ ms bs, Good n ms bs s → Good n ms bs r.2 → (∀ i, i < n + s.ds.length → vl ms bs r.2 i = vl ms bs s i) → vl ms bs r.2 r.1 = v (vl ms bs s) → v' (vl ms bs r.2) = w (vl ms bs s)) : OpU n s r' w (k + k') := by
  refine ⟨fun z => h'.row (h.row z), fun z => h'.pl (h.pl z), h'.tops.trans h.tops, ⟨Nat.le_trans h.len.1 h'.len.1, by have := h.len; have := h'.len; omega⟩, h'.lt, ⟨h'.z.1.trans h.z.1, h'.z.2.trans h.z.2⟩, fun ms bs g => ?_⟩
  obtain ⟨g1, o1, e1, m1⟩ := h.sem ms bs g
  obtain ⟨g2, o2, e2, m2⟩ := h'.sem ms bs g1
  exact ⟨g2, fun i hi => (o2 i (by have := h.len; omega)).trans (o1 i hi), e2.trans (hw ms bs g g1 o1 e1), m2.trans m1⟩
theorem nor_u {n a b : Nat} {s : PM} (ha : a < n + s.ds.length) (hb : b < n + s.ds.length) : OpU n s (mNor n a b s) (fun v => if v a + v b = 0 then 1 else 0) 3 := by
  have h1 := inv_u (n := n) (s := s) ha
  have h2 : OpU n (mInv n a s).2 (mInv n b (mInv n a s).2) _ 1 := inv_u (by have := h1.len; omega)
  have h3 : OpU n (mInv n b (mInv n a s).2).2 (mNor n a b s) _ 1 := and_u (a := (mInv n a s).1) (b := (mInv n b (mInv n a s).2).1) (by have := h1.lt; have := h2.len; omega) h2.lt
  have h12 : OpU n s (mInv n b (mInv n a s).2) (fun v => 1 - v b) 2 := h1.trans h2 fun ms bs g g1 o e => by rw [o b hb]
  refine h12.trans h3 fun ms bs g g2 o e => ?_
  obtain ⟨g1, o1, e1, _⟩ := h1.sem ms bs g
  obtain ⟨_, o2, _, _⟩ := h2.sem ms bs g1
  rw [o2 _ h1.lt, e1, e]
  rcases g.v01 a with p | p <;> rcases g.v01 b with q | q <;> simp only [p, q] <;> rfl
theorem or_u {n a b : Nat} {s : PM} (ha : a < n + s.ds.length) (hb : b < n + s.ds.length) : OpU n s (mOr n a b s) (fun v => if 0 < v a + v b then 1 else 0) 4 := by
  have h1 := nor_u (n := n) (s := s) ha hb
  have h2 : OpU n (mNor n a b s).2 (mOr n a b s) _ 1 := inv_u h1.lt
  refine h1.trans h2 fun ms bs g g1 o e => ?_
  rw [e]
  rcases g.v01 a with p | p <;> rcases g.v01 b with q | q <;> simp only [p, q] <;> rfl
theorem nan_u {n a b : Nat} {s : PM} (ha : a < n + s.ds.length) (hb : b < n + s.ds.length) : OpU n s (mNan n a b s) (fun v => if v a + v b = 2 then 0 else 1) 2 := by
  have h1 := and_u (n := n) (s := s) ha hb
  have h2 : OpU n (mAnd n a b s).2 (mNan n a b s) _ 1 := inv_u h1.lt
  refine h1.trans h2 fun ms bs g g1 o e => ?_
  rw [e]
  rcases g.v01 a with p | p <;> rcases g.v01 b with q | q <;> simp only [p, q] <;> rfl
theorem xor_u {n a b : Nat} {s : PM} (ha : a < n + s.ds.length) (hb : b < n + s.ds.length) : OpU n s (mXor n a b s) (fun v => if v a = v b then 0 else 1) 7 := by
  have h1 := or_u (n := n) (s := s) ha hb
  have h2 : OpU n (mOr n a b s).2 (mNan n a b (mOr n a b s).2) _ 2 := nan_u (by have := h1.len; omega) (by have := h1.len; omega)
  have h3 : OpU n (mNan n a b (mOr n a b s).2).2 (mXor n a b s) _ 1 := and_u (a := (mOr n a b s).1) (b := (mNan n a b (mOr n a b s).2).1) (by have := h1.lt; have := h2.len; omega) h2.lt
  have h12 : OpU n s (mNan n a b (mOr n a b s).2) (fun v => if v a + v b = 2 then 0 else 1) 6 := h1.trans h2 fun ms bs g g1 o e => by rw [o a ha, o b hb]
  refine h12.trans h3 fun ms bs g g2 o e => ?_
  obtain ⟨g1, o1, e1, _⟩ := h1.sem ms bs g
  obtain ⟨_, o2, _, _⟩ := h2.sem ms bs g1
  rw [o2 _ h1.lt, e1, e]
  rcases g.v01 a with p | p <;> rcases g.v01 b with q | q <;> simp only [p, q] <;> rfl
/-! ### nought and full -/
theorem pl_b1 {bs : List Nat} (hb : Bits bs) {x : Deed} (h : Pl x = true) (m : Nat) : x.bit1 bs m = 0 ∨ x.bit1 bs m = 1 := by
  cases x <;> first | (simp [Pl] at h; done) | skip
  · exact .inl rfl
  · exact .inl rfl
  · exact mod01 _
  · exact if01
theorem run_good {n : Nat} (ms : List Nat) {bs : List Nat} (hb : Bits bs) (hl : bs.length = n) : ∀ k (xs : List Deed), xs.length = k → (∀ x ∈ xs, Pl x = true) → Bits (runD ms bs xs).1 ∧ (runD ms bs xs).1.length = n + k := by
  intro k
  induction k with
  | zero =>
    intro xs hx _
    rw [List.length_eq_zero_iff.mp hx]
    exact ⟨hb, hl⟩
  | succ k ih =>
    intro xs hx hp
    obtain ⟨ys, y, rfl⟩ : ∃ ys y, xs = ys ++ [y] := ⟨xs.dropLast, xs.getLast (by intro z; rw [z] at hx; cases hx), (List.dropLast_concat_getLast _).symm⟩
    have hk : ys.length = k := by simpa using hx
    obtain ⟨h1, h2⟩ := ih ys hk fun x hx => hp x (List.mem_append_left _ hx)
    rw [runD_snoc]
    cases hm : y.marked with
    | false =>
      rw [stp_u hm]
      exact ⟨h1.snoc' (bit0_01 h1 y), by rw [List.length_append, h2]; simp; omega⟩
    | true =>
      rw [stp_m hm]
      exact ⟨h1.snoc' (pl_b1 h1 (hp y (by simp)) _), by rw [List.length_append, h2]; simp; omega⟩
theorem good_of {n : Nat} {ms bs : List Nat} {s : PM} (hp : ∀ x ∈ s.ds, Pl x = true) (hb : Bits bs) (hl : bs.length = n) : Good n ms bs s :=
  ⟨hb, hl, (run_good ms hb hl _ s.ds rfl hp).1, (run_good ms hb hl _ s.ds rfl hp).2⟩
def ZF (n : Nat) (s : PM) : Prop := (∀ k, s.z = some k → k < n + s.ds.length ∧ ∀ ms bs, Good n ms bs s → vl ms bs s k = 0) ∧ (∀ k, s.f = some k → k < n + s.ds.length ∧ ∀ ms bs, Good n ms bs s → vl ms bs s k = 1)
/-- any step: with marks ts -/
structure OpG (n : Nat) (s : PM) (r : Nat × PM) (ts : List (Bool × Nat)) (v : (Nat → Nat) → Nat → Nat) (nx : (Nat → Nat) → Nat → List Nat) (k : Nat) : Prop where
  row : Row n s.ds → Row n r.2.ds
  pl : (∀ x ∈ s.ds, Pl x = true) → ∀ x ∈ r.2.ds, Pl x = true
  tops : kds r.2.ds = kds s.ds ++ ts
  len : s.ds.length ≤ r.2.ds.length ∧ r.2.ds.length + (if r.2.z = none then 2 else 0) + (if r.2.f = none then 1 else 0) ≤ s.ds.length + k + (if s.z = none then 2 else 0) + (if s.f = none then 1 else 0)
  lt : r.1 < n + r.2.ds.length
  zf : (∀ x ∈ s.ds, Pl x = true) → ZF n s → ZF n r.2
  sem : ∀ ms bs, Good n ms bs s → ZF n s → Good n ms bs r.2 ∧ (∀ i, i < n + s.ds.length → vl ms bs r.2 i = vl ms bs s i) ∧ vl ms bs r.2 r.1 = v (vl ms bs s) (ms.getD (mkr ms bs s).length 0) ∧ mkr ms bs r.2 = mkr ms bs s ++ nx (vl ms bs s) (ms.getD (mkr ms bs s).length 0)
theorem ZF.keep {n : Nat} {s r : PM} (hp : ∀ x ∈ s.ds, Pl x = true) (hz : r.z = s.z) (hf : r.f = s.f) (hl : s.ds.length ≤ r.ds.length) (ho : ∀ ms bs, Good n ms bs s → ∀ i, i < n + s.ds.length → vl ms bs r i = vl ms bs s i) (h : ZF n s) : ZF n r := by
  refine ⟨fun k hk => ?_, fun k hk => ?_⟩
  · obtain ⟨h1, h2⟩ := h.1 k (hz ▸ hk)
    exact ⟨by omega, fun ms bs g => by
      have g' := good_of (n := n) (ms := ms) hp g.b0 g.l0
      rw [ho ms bs g' k h1]
      exact h2 ms bs g'⟩
  · obtain ⟨h1, h2⟩ := h.2 k (hf ▸ hk)
    exact ⟨by omega, fun ms bs g => by
      have g' := good_of (n := n) (ms := ms) hp g.b0 g.l0
      rw [ho ms bs g' k h1]
      exact h2 ms bs g'⟩
theorem OpU.g {n : Nat} {s : PM} {r : Nat × PM} {v : (Nat → Nat) → Nat} {k : Nat} (h : OpU n s r v k) : OpG n s r [] (fun w _ => v w) (fun _ _ => []) k := by
  refine ⟨h.row, h.pl, by rw [h.tops, List.append_nil], ⟨h.len.1, by rw [h.z.1, h.z.2]; have := h.len.2; omega⟩, h.lt, fun hp z => z.keep hp h.z.1 h.z.2 h.len.1 fun ms bs g => (h.sem ms bs g).2.1, fun ms bs g _ => ?_⟩
  obtain ⟨g1, o1, e1, m1⟩ := h.sem ms bs g
  exact ⟨g1, o1, e1, by rw [m1, List.append_nil]⟩
/-- a step, then one more -/
theorem OpG.trans {n : Nat} {s : PM} {r r' : Nat × PM} {ts ts' : List (Bool × Nat)} {v v' w : (Nat → Nat) → Nat → Nat} {nx nx' nw : (Nat → Nat) → Nat → List Nat} {k k' : Nat} (h : OpG n s r ts v nx k) (h' : OpG n r.2 r' ts' v' nx' k')
    (hp : ∀ x ∈ s.ds, Pl x = true)
    (hw : ∀ ms bs, Good n ms bs s → ZF n s → Good n ms bs r.2 → (∀ i, i < n + s.ds.length → vl ms bs r.2 i = vl ms bs s i) → vl ms bs r.2 r.1 = v (vl ms bs s) (ms.getD (mkr ms bs s).length 0) → mkr ms bs r.2 = mkr ms bs s ++ nx (vl ms bs s) (ms.getD (mkr ms bs s).length 0) →
      v' (vl ms bs r.2) (ms.getD (mkr ms bs r.2).length 0) = w (vl ms bs s) (ms.getD (mkr ms bs s).length 0) ∧ nx (vl ms bs s) (ms.getD (mkr ms bs s).length 0) ++ nx' (vl ms bs r.2) (ms.getD (mkr ms bs r.2).length 0) = nw (vl ms bs s) (ms.getD (mkr ms bs s).length 0)) : OpG n s r' (ts ++ ts') w nw (k + k') := by
  refine ⟨fun z => h'.row (h.row z), fun z => h'.pl (h.pl z), by rw [h'.tops, h.tops, List.append_assoc], ⟨Nat.le_trans h.len.1 h'.len.1, by have := h.len; have := h'.len; omega⟩, h'.lt, fun hp z => h'.zf (h.pl hp) (h.zf hp z), fun ms bs g z => ?_⟩
  obtain ⟨g1, o1, e1, m1⟩ := h.sem ms bs g z
  obtain ⟨g2, o2, e2, m2⟩ := h'.sem ms bs g1 (h.zf hp z)
  obtain ⟨w1, w2⟩ := hw ms bs g z g1 o1 e1 m1
  exact ⟨g2, fun i hi => (o2 i (by have := h.len; omega)).trans (o1 i hi), e2.trans w1, by rw [m2, m1, List.append_assoc, ← m1, w2]⟩
theorem zero_g {n : Nat} (h1 : 1 ≤ n) {s : PM} (hp : ∀ x ∈ s.ds, Pl x = true) (hz : ZF n s) : OpG n s (mZero n s) [] (fun _ _ => 0) (fun _ _ => []) 0 := by
  obtain ⟨ds, z, f⟩ := s
  cases z with
  | some k => exact ⟨id, id, by rw [List.append_nil]; rfl, ⟨Nat.le_refl _, Nat.le_refl _⟩, (hz.1 k rfl).1, fun _ z => z, fun ms bs g _ => ⟨g, fun _ _ => rfl, (hz.1 k rfl).2 ms bs g, by rw [List.append_nil]; rfl⟩⟩
  | none =>
    have h0 : 0 < n + ds.length := by omega
    have a1 : OpU n ⟨ds, none, f⟩ (mInv n 0 ⟨ds, none, f⟩) _ 1 := inv_u h0
    have a2 : OpU n (mInv n 0 ⟨ds, none, f⟩).2 (mZer n ⟨ds, none, f⟩) _ 1 := and_u (a := 0) (b := (mInv n 0 ⟨ds, none, f⟩).1) (by have := a1.len; have : ds.length ≤ (mInv n 0 ⟨ds, none, f⟩).2.ds.length := this.1; omega) a1.lt
    have a3 : OpU n ⟨ds, none, f⟩ (mZer n ⟨ds, none, f⟩) (fun _ => 0) 2 := a1.trans a2 fun ms bs g g1 o e => by
      rw [o 0 h0, e]
      rcases g.v01 0 with p | p <;> simp only [p] <;> rfl
    have len := a3.len
    have sem : ∀ ms bs, Good n ms bs ⟨ds, none, f⟩ → Good n ms bs (mZero n ⟨ds, none, f⟩).2 ∧ (∀ i, i < n + ds.length → vl ms bs (mZero n ⟨ds, none, f⟩).2 i = vl ms bs ⟨ds, none, f⟩ i) ∧ vl ms bs (mZero n ⟨ds, none, f⟩).2 (mZero n ⟨ds, none, f⟩).1 = 0 ∧ mkr ms bs (mZero n ⟨ds, none, f⟩).2 = mkr ms bs ⟨ds, none, f⟩ := fun ms bs g => by
      obtain ⟨g1, o1, e1, m1⟩ := a3.sem ms bs g
      exact ⟨⟨g1.b0, g1.l0, g1.bits, g1.len⟩, o1, e1, m1⟩
    refine ⟨a3.row, a3.pl, by rw [List.append_nil]; exact a3.tops, ⟨a3.len.1, ?_⟩, a3.lt, fun hp z => ?_, fun ms bs g _ => ?_⟩
    · have e1 : (mZero n ⟨ds, none, f⟩).2.ds.length ≤ ds.length + 2 := a3.len.2
      have e2 : (mZero n ⟨ds, none, f⟩).2.f = f := a3.z.2
      have e3 : ¬ (mZero n ⟨ds, none, f⟩).2.z = none := fun z => by cases z
      rw [e2, if_neg e3, if_pos rfl]
      show _ ≤ ds.length + 0 + 2 + (if f = none then 1 else 0)
      omega
    · refine ⟨fun k hk => ?_, fun k hk => ?_⟩
      · have : k = (mZer n ⟨ds, none, f⟩).1 := (Option.some.inj hk).symm
        rw [this]
        exact ⟨a3.lt, fun ms bs g => (sem ms bs (good_of hp g.b0 g.l0)).2.2.1⟩
      · have hk' : f = some k := (show (mZer n ⟨ds, none, f⟩).2.f = f from a3.z.2).symm.trans hk
        obtain ⟨z1, z2⟩ := z.2 k hk'
        have z1' : k < n + ds.length := z1
        exact ⟨by have : ds.length ≤ (mZero n ⟨ds, none, f⟩).2.ds.length := a3.len.1; omega, fun ms bs g => by
          have g' := good_of (n := n) (ms := ms) (bs := bs) (s := ⟨ds, none, f⟩) hp g.b0 g.l0
          rw [(sem ms bs g').2.1 k z1']
          exact z2 ms bs g'⟩
    · obtain ⟨g1, o1, e1, m1⟩ := sem ms bs g
      exact ⟨g1, o1, e1, by rw [m1, List.append_nil]⟩
theorem ones_g {n : Nat} (h1 : 1 ≤ n) {s : PM} (hp : ∀ x ∈ s.ds, Pl x = true) (hz : ZF n s) : OpG n s (mOnes n s) [] (fun _ _ => 1) (fun _ _ => []) 0 := by
  obtain ⟨ds, z, f⟩ := s
  cases f with
  | some k => exact ⟨id, id, by rw [List.append_nil]; rfl, ⟨Nat.le_refl _, Nat.le_refl _⟩, (hz.2 k rfl).1, fun _ z => z, fun ms bs g _ => ⟨g, fun _ _ => rfl, (hz.2 k rfl).2 ms bs g, by rw [List.append_nil]; rfl⟩⟩
  | none =>
    have a1 := zero_g h1 hp hz
    have a2 : OpU n (mZero n ⟨ds, z, none⟩).2 (mOne n ⟨ds, z, none⟩) _ 1 := inv_u a1.lt
    have a3 : OpG n ⟨ds, z, none⟩ (mOne n ⟨ds, z, none⟩) ([] ++ []) (fun _ _ => 1) (fun _ _ => []) (0 + 1) := a1.trans a2.g hp fun ms bs g _ g1 o e m => ⟨by rw [e], rfl⟩
    have hf : (mOne n ⟨ds, z, none⟩).2.f = none := by
      cases z <;> rfl
    have sem : ∀ ms bs, Good n ms bs ⟨ds, z, none⟩ → Good n ms bs (mOnes n ⟨ds, z, none⟩).2 ∧ (∀ i, i < n + ds.length → vl ms bs (mOnes n ⟨ds, z, none⟩).2 i = vl ms bs ⟨ds, z, none⟩ i) ∧ vl ms bs (mOnes n ⟨ds, z, none⟩).2 (mOnes n ⟨ds, z, none⟩).1 = 1 ∧ mkr ms bs (mOnes n ⟨ds, z, none⟩).2 = mkr ms bs ⟨ds, z, none⟩ := fun ms bs g => by
      obtain ⟨g1, o1, e1, m1⟩ := a3.sem ms bs g hz
      exact ⟨⟨g1.b0, g1.l0, g1.bits, g1.len⟩, o1, e1, by rw [List.append_nil] at m1; exact m1⟩
    have zf3 := a3.zf hp hz
    refine ⟨a3.row, a3.pl, by rw [List.append_nil]; exact a3.tops.trans (List.append_nil _), ⟨a3.len.1, ?_⟩, a3.lt, fun hp' z' => ?_, fun ms bs g _ => ?_⟩
    · have e1 := a3.len.2
      rw [hf] at e1
      have e3 : ¬ (mOnes n ⟨ds, z, none⟩).2.f = none := fun z => by cases z
      have e4 : (mOnes n ⟨ds, z, none⟩).2.z = (mOne n ⟨ds, z, none⟩).2.z := rfl
      have e5 : (mOnes n ⟨ds, z, none⟩).2.ds = (mOne n ⟨ds, z, none⟩).2.ds := rfl
      rw [if_neg e3, e4, e5]
      simp only [if_true] at e1 ⊢
      omega
    · refine ⟨fun k hk => ?_, fun k hk => ?_⟩
      · obtain ⟨z1, z2⟩ := zf3.1 k hk
        exact ⟨z1, fun ms bs g => z2 ms bs ⟨g.b0, g.l0, g.bits, g.len⟩⟩
      · have : k = (mOne n ⟨ds, z, none⟩).1 := (Option.some.inj hk).symm
        rw [this]
        exact ⟨a3.lt, fun ms bs g => (sem ms bs (good_of hp' g.b0 g.l0)).2.2.1⟩
    · obtain ⟨g1, o1, e1, m1⟩ := sem ms bs g
      exact ⟨g1, o1, e1, by rw [m1, List.append_nil]⟩
end Py.U
namespace Py.U
open PySem
theorem put_g {n : Nat} {s : PM} {x : Deed} (hm : x.marked = true) (hp : Pl x = true) (hx : x.ok (n + s.ds.length)) (v : (Nat → Nat) → Nat → Nat) (nx : (Nat → Nat) → Nat → Nat) (hv : ∀ (bs : List Nat) m, x.bit1 bs m = v (at0 bs) m) (hn : ∀ (bs : List Nat) m, x.next bs m = nx (at0 bs) m) :
    OpG n s (mPut n x s) [(x.isCount, x.top)] v (fun w m => [nx w m]) 1 := by
  have key : ∀ ms bs, runD ms bs (mPut n x s).2.ds = ((runD ms bs s.ds).1 ++ [x.bit1 (runD ms bs s.ds).1 (ms.getD (runD ms bs s.ds).2.length 0)], (runD ms bs s.ds).2 ++ [x.next (runD ms bs s.ds).1 (ms.getD (runD ms bs s.ds).2.length 0)]) := fun ms bs => (runD_snoc ms bs s.ds x).trans (stp_m hm)
  have pl' : (∀ x ∈ s.ds, Pl x = true) → ∀ y ∈ (mPut n x s).2.ds, Pl y = true := fun h y hy => by
    rcases List.mem_append.mp hy with z | z
    · exact h y z
    · rw [List.mem_singleton.mp z]
      exact hp
  have old : ∀ ms bs, Good n ms bs s → ∀ i, i < n + s.ds.length → vl ms bs (mPut n x s).2 i = vl ms bs s i := fun ms bs g i hi => by
    unfold vl
    rw [key]
    exact at0_old (by rw [g.len]; exact hi)
  refine ⟨fun hr => hr.snoc hx, pl', ?_, ⟨by simp [mPut], by show (s.ds ++ [x]).length + _ + _ ≤ _; rw [List.length_append]; exact Nat.le_refl _⟩, by simp [mPut], fun hp z => z.keep hp rfl rfl (by simp [mPut]) old, fun ms bs g _ => ⟨⟨g.b0, g.l0, ?_, ?_⟩, old ms bs g, ?_, ?_⟩⟩
  · show kds (s.ds ++ [x]) = _
    rw [kds_snoc, hm]
    rfl
  · rw [key]
    exact g.bits.snoc' (pl_b1 g.bits hp _)
  · rw [key, List.length_append, g.len]
    simp [mPut]
    omega
  · unfold vl
    rw [key]
    exact (at0_new g.len).trans (hv _ _)
  · unfold mkr
    rw [key, hn]
    rfl
theorem add_g {n a b : Nat} {s : PM} (ha : a < n + s.ds.length) (hb : b < n + s.ds.length) : OpG n s (mAdd n a b s) [(false, 2)] (fun v m => (v a + v b + m) % 2) (fun v m => [if 2 ≤ v a + v b + m then 1 else 0]) 1 :=
  put_g (x := .add a b) rfl rfl ⟨ha, hb⟩ _ (fun v m => if 2 ≤ v a + v b + m then 1 else 0) (fun _ _ => rfl) fun _ _ => rfl
theorem count_g {n p r : Nat} {ps : List Nat} {s : PM} (hx : (Deed.count p r ps).ok (n + s.ds.length)) : OpG n s (mPut n (.count p r ps) s) [(true, p)] (fun _ m => if m = r then 1 else 0) (fun v m => [(m + (ps.map v).sum) % p]) 1 :=
  put_g (x := .count p r ps) rfl rfl hx _ (fun v m => (m + (ps.map v).sum) % p) (fun _ _ => rfl) fun _ _ => rfl
theorem dif_g {n a b : Nat} {s : PM} (hp : ∀ x ∈ s.ds, Pl x = true) (ha : a < n + s.ds.length) (hb : b < n + s.ds.length) : OpG n s (mDif n a b s) [(false, 2)] (fun v m => 1 - (1 - v a + v b + m) % 2) (fun v m => [if 2 ≤ 1 - v a + v b + m then 1 else 0]) 3 := by
  have h1 := inv_u (n := n) (s := s) ha
  have hp1 := h1.pl hp
  have h2 := add_g (n := n) (s := (mInv n a s).2) (a := (mInv n a s).1) (b := b) h1.lt (by have := h1.len; omega)
  have h3 := inv_u (n := n) (s := (mAdd n (mInv n a s).1 b (mInv n a s).2).2) h2.lt
  have h12 : OpG n s (mAdd n (mInv n a s).1 b (mInv n a s).2) ([] ++ [(false, 2)]) (fun v m => (1 - v a + v b + m) % 2) (fun v m => [if 2 ≤ 1 - v a + v b + m then 1 else 0]) (1 + 1) :=
    h1.g.trans h2 hp fun ms bs g _ g1 o e m => by
      have m' : mkr ms bs (mInv n a s).2 = mkr ms bs s := by rw [m]; exact List.append_nil _
      rw [m', e, o b hb]
      exact ⟨rfl, rfl⟩
  exact h12.trans h3.g hp fun ms bs g _ g1 o e m => by
    rw [e]
    exact ⟨rfl, List.append_nil _⟩
theorem min_g {n a : Nat} (h1 : 1 ≤ n) {s : PM} (hp : ∀ x ∈ s.ds, Pl x = true) (hz : ZF n s) (ha : a < n + s.ds.length) : OpG n s (mMin n a s) [(false, 2)] (fun v m => 1 - (v a + 1 + m) % 2) (fun v m => [if 2 ≤ v a + 1 + m then 1 else 0]) 2 := by
  have g1 := ones_g h1 hp hz
  have hp1 := g1.pl hp
  have h2 := add_g (n := n) (s := (mOnes n s).2) (a := a) (b := (mOnes n s).1) (by have := g1.len; omega) g1.lt
  have h3 := inv_u (n := n) (s := (mAdd n a (mOnes n s).1 (mOnes n s).2).2) h2.lt
  have h12 : OpG n s (mAdd n a (mOnes n s).1 (mOnes n s).2) ([] ++ [(false, 2)]) (fun v m => (v a + 1 + m) % 2) (fun v m => [if 2 ≤ v a + 1 + m then 1 else 0]) (0 + 1) :=
    g1.trans h2 hp fun ms bs g _ g1 o e m => by
      have m' : mkr ms bs (mOnes n s).2 = mkr ms bs s := by rw [m]; exact List.append_nil _
      rw [m', e, o a ha]
      exact ⟨rfl, rfl⟩
  exact h12.trans h3.g hp fun ms bs g _ g1 o e m => by
    rw [e]
    exact ⟨rfl, List.append_nil _⟩
/-! ### each deed of the row -/
/-- what the maker does for the deed x; pl: where its values stand -/
def mDeed (n : Nat) (pl : Nat → Nat) : Deed → MS
  | .zero => mZero n
  | .ones => mOnes n
  | .inv a => mInv n (pl a)
  | .and a b => mAnd n (pl a) (pl b)
  | .or a b => mOr n (pl a) (pl b)
  | .xor a b => mXor n (pl a) (pl b)
  | .shift a => mAdd n (pl a) (pl a)
  | .minus a => mMin n (pl a)
  | .add a b => mAdd n (pl a) (pl b)
  | .sub a b => mDif n (pl a) (pl b)
  | .count p r ps => mPut n (.count p r (ps.map pl))
def mks (x : Deed) : List (Bool × Nat) := if x.marked then [(x.isCount, x.top)] else []
structure OpX (n : Nat) (s : PM) (r : Nat × PM) (pl : Nat → Nat) (x : Deed) (N : Nat) : Prop where
  row : Row n s.ds → Row n r.2.ds
  plain : ∀ x ∈ r.2.ds, Pl x = true
  tops : kds r.2.ds = kds s.ds ++ mks x
  len : s.ds.length ≤ r.2.ds.length ∧ r.2.ds.length + (if r.2.z = none then 2 else 0) + (if r.2.f = none then 1 else 0) ≤ s.ds.length + 7 + (if s.z = none then 2 else 0) + (if s.f = none then 1 else 0)
  lt : r.1 < n + r.2.ds.length
  zf : ZF n r.2
  sem : ∀ ms bs, Good n ms bs s → ∀ c : List Nat, Bits c → (∀ a, a < N → vl ms bs s (pl a) = at0 c a) → (x.marked = true → ms.getD (mkr ms bs s).length 0 < x.top) →
    Good n ms bs r.2 ∧ (∀ i, i < n + s.ds.length → vl ms bs r.2 i = vl ms bs s i) ∧ vl ms bs r.2 r.1 = (if x.marked then x.bit1 c (ms.getD (mkr ms bs s).length 0) else x.bit0 c) ∧
    mkr ms bs r.2 = mkr ms bs s ++ (if x.marked then [x.next c (ms.getD (mkr ms bs s).length 0)] else [])
theorem OpG.x {n : Nat} {s : PM} {r : Nat × PM} {ts : List (Bool × Nat)} {v : (Nat → Nat) → Nat → Nat} {nx : (Nat → Nat) → Nat → List Nat} {k : Nat} {pl : Nat → Nat} {x : Deed} {N : Nat} (h : OpG n s r ts v nx k) (hk : k ≤ 7) (hp : ∀ x ∈ s.ds, Pl x = true) (hz : ZF n s) (ht : ts = mks x)
    (hv : ∀ (w : Nat → Nat) (c : List Nat) m, (∀ a, w a = 0 ∨ w a = 1) → Bits c → (∀ a, a < N → w (pl a) = at0 c a) → (x.marked = true → m < x.top) → v w m = (if x.marked then x.bit1 c m else x.bit0 c) ∧ nx w m = (if x.marked then [x.next c m] else [])) : OpX n s r pl x N := by
  refine ⟨h.row, h.pl hp, ht ▸ h.tops, ⟨h.len.1, by have := h.len; omega⟩, h.lt, h.zf hp hz, fun ms bs g c hc hw hm => ?_⟩
  obtain ⟨g1, o1, e1, m1⟩ := h.sem ms bs g hz
  obtain ⟨w1, w2⟩ := hv (vl ms bs s) c (ms.getD (mkr ms bs s).length 0) (fun a => g.v01 a) hc hw hm
  exact ⟨g1, o1, e1.trans w1, by rw [m1, w2]⟩
theorem deed_x {n N : Nat} (h1 : 1 ≤ n) {s : PM} {pl : Nat → Nat} {x : Deed} (hp : ∀ x ∈ s.ds, Pl x = true) (hz : ZF n s) (hx : x.ok N) (hl : ∀ a, a < N → pl a < n + s.ds.length) : OpX n s (mDeed n pl x s) pl x N := by
  cases x with
  | zero => exact (zero_g h1 hp hz).x (by decide) hp hz rfl fun w c m _ _ _ _ => ⟨rfl, rfl⟩
  | ones => exact (ones_g h1 hp hz).x (by decide) hp hz rfl fun w c m _ _ _ _ => ⟨rfl, rfl⟩
  | inv a => exact (inv_u (hl a hx)).g.x (by decide) hp hz rfl fun w c m _ _ hw _ => ⟨by rw [hw a hx]; rfl, rfl⟩
  | and a b => exact (and_u (hl a hx.1) (hl b hx.2)).g.x (by decide) hp hz rfl fun w c m _ _ hw _ => ⟨by rw [hw a hx.1, hw b hx.2]; rfl, rfl⟩
  | or a b => exact (or_u (hl a hx.1) (hl b hx.2)).g.x (by decide) hp hz rfl fun w c m _ _ hw _ => ⟨by rw [hw a hx.1, hw b hx.2]; rfl, rfl⟩
  | xor a b => exact (xor_u (hl a hx.1) (hl b hx.2)).g.x (by decide) hp hz rfl fun w c m _ _ hw _ => ⟨by rw [hw a hx.1, hw b hx.2]; rfl, rfl⟩
  | shift a =>
    refine (add_g (hl a hx) (hl a hx)).x (by decide) hp hz rfl fun w c m _ hc hw hm => ?_
    have hm' : m < 2 := hm rfl
    rw [hw a hx]
    show (at0 c a + at0 c a + m) % 2 = m ∧ [if 2 ≤ at0 c a + at0 c a + m then 1 else 0] = [at0 c a]
    rcases at0_01 hc a with p | p <;> rw [p]
    · exact ⟨by omega, by rw [if_neg (by omega)]⟩
    · exact ⟨by omega, by rw [if_pos (by omega)]⟩
  | minus a =>
    refine (min_g h1 hp hz (hl a hx)).x (by decide) hp hz rfl fun w c m _ hc hw hm => ?_
    rw [hw a hx]
    show 1 - (at0 c a + 1 + m) % 2 = (at0 c a + m) % 2 ∧ [if 2 ≤ at0 c a + 1 + m then 1 else 0] = [if 1 ≤ at0 c a + m then 1 else 0]
    exact ⟨by omega, by congr 1; by_cases q : 1 ≤ at0 c a + m; rw [if_pos q, if_pos (by omega)]; rw [if_neg q, if_neg (by omega)]⟩
  | add a b => exact (add_g (hl a hx.1) (hl b hx.2)).x (by decide) hp hz rfl fun w c m _ _ hw _ => ⟨by rw [hw a hx.1, hw b hx.2]; rfl, by rw [hw a hx.1, hw b hx.2]; rfl⟩
  | sub a b =>
    refine (dif_g hp (hl a hx.1) (hl b hx.2)).x (by decide) hp hz rfl fun w c m _ hc hw hm => ?_
    rw [hw a hx.1, hw b hx.2]
    show 1 - (1 - at0 c a + at0 c b + m) % 2 = (at0 c a + at0 c b + m) % 2 ∧ [if 2 ≤ 1 - at0 c a + at0 c b + m then 1 else 0] = [if at0 c a < at0 c b + m then 1 else 0]
    rcases at0_01 hc a with p | p <;> rw [p]
    · exact ⟨by omega, by congr 1; by_cases q : 0 < at0 c b + m; rw [if_pos q, if_pos (by omega)]; rw [if_neg q, if_neg (by omega)]⟩
    · exact ⟨by omega, by congr 1; by_cases q : 1 < at0 c b + m; rw [if_pos q, if_pos (by omega)]; rw [if_neg q, if_neg (by omega)]⟩
  | count p r ps =>
    obtain ⟨q1, q2, q3, q4, q5⟩ := hx
    refine (count_g (n := n) (s := s) (p := p) (r := r) (ps := ps.map pl) ⟨q1, q2, by simpa using q3, by simpa using q4, fun a ha => ?_⟩).x (by decide) hp hz rfl fun w c m _ hc hw hm => ⟨rfl, ?_⟩
    · obtain ⟨b, hb, rfl⟩ := List.mem_map.mp ha
      exact hl b (q5 b hb)
    · show [(m + ((ps.map pl).map w).sum) % p] = [(m + tot c ps) % p]
      rw [List.map_map]
      unfold tot
      congr 4
      exact List.map_congr_left fun a ha => hw a (q5 a ha)
end Py.U
namespace Py.U
open PySem
/-! ### made, the row's walk -/
theorem hit {t : TM} {b r : SM} {e : Env} {f : D} (ht : t e = .ok true) (hb : b e = .ok (.ret f)) : seq (Py.ite t b skip) r e = .ok (.ret f) := by
  unfold seq Py.ite
  rw [ht, bind_ok, if_pos rfl, hb]
  rfl
theorem ones_len (n : Nat) (s : PM) : s.ds.length ≤ (mOnes n s).2.ds.length ∧ (mOnes n s).2.ds.length ≤ s.ds.length + 3 := by
  obtain ⟨ds, z, f⟩ := s
  cases f with
  | some k => exact ⟨Nat.le_refl _, Nat.le_add_right _ _⟩
  | none =>
    have h := zero_len n ⟨ds, z, none⟩
    have e : (mOnes n ⟨ds, z, none⟩).2.ds.length = (mZero n ⟨ds, z, none⟩).2.ds.length + 1 := put_len n _ _
    have h1 : ds.length ≤ (mZero n ⟨ds, z, none⟩).2.ds.length := h.1
    have h2 : (mZero n ⟨ds, z, none⟩).2.ds.length ≤ ds.length + 2 := h.2
    show ds.length ≤ _ ∧ _ ≤ ds.length + 3
    omega
/-- the numbers that a deed names -/
def Deed.nums : Deed → List Nat
  | .inv a => [a]
  | .and a b => [a, b]
  | .or a b => [a, b]
  | .xor a b => [a, b]
  | .shift a => [a]
  | .minus a => [a]
  | .add a b => [a, b]
  | .sub a b => [a, b]
  | .count _ _ ps => ps
  | _ => []
theorem made_ok {n : Nat} {s : PM} (hz : s.ds.length + 99 < PMS) (pl : Nat → Nat) (x : Deed) (hc : x.isCount = false) : m_PlainMaker_made [s.d n, .str x.name, .lst (x.nums.map fun a => nD (pl a))] = bk n (mDeed n pl x s) := by
  refine fnL_ok rfl ?_
  show b_PlainMaker_made [some (s.d n), some (.str x.name), some (.lst (x.nums.map fun a => nD (pl a))), none, none] = _
  unfold b_PlainMaker_made
  cases x with
  | count p r ps => cases hc
  | zero => exact hit rfl (retL_ok (pm_look n s rfl rfl xaN_ok rfl (zero_ok (by omega))) rfl)
  | ones => exact (chk_pass rfl).trans (hit rfl (retL_ok (pm_look n s rfl rfl xaN_ok rfl (ones_ok (by omega))) rfl))
  | inv a => exact (chk_pass rfl).trans ((chk_pass rfl).trans ((seq_next (e' := [some (s.d n), some (.str "not"), some (.lst [nD (pl a)]), some (nD (pl a)), some (nD (pl a))]) rfl).trans (hit rfl (retL_ok (pm_look n s rfl rfl (xaC_ok (upX_ok rfl) xaN_ok) rfl (opp_ok (by omega) _)) rfl))))
  | and a b => exact (chk_pass rfl).trans ((chk_pass rfl).trans ((seq_next (e' := [some (s.d n), some (.str "and"), some (.lst [nD (pl a), nD (pl b)]), some (nD (pl a)), some (nD (pl b))]) rfl).trans ((chk_pass rfl).trans (hit rfl (retL_ok (pm_look n s rfl rfl (xaC_ok (upX_ok rfl) (xaC_ok (upX_ok rfl) xaN_ok)) rfl (and_ok (by omega) _ _)) rfl)))))
  | or a b => exact (chk_pass rfl).trans ((chk_pass rfl).trans ((seq_next (e' := [some (s.d n), some (.str "or"), some (.lst [nD (pl a), nD (pl b)]), some (nD (pl a)), some (nD (pl b))]) rfl).trans ((chk_pass rfl).trans ((chk_pass rfl).trans (hit rfl (retL_ok (pm_look n s rfl rfl (xaC_ok (upX_ok rfl) (xaC_ok (upX_ok rfl) xaN_ok)) rfl (or_ok (by omega) _ _)) rfl))))))
  | xor a b => exact (chk_pass rfl).trans ((chk_pass rfl).trans ((seq_next (e' := [some (s.d n), some (.str "xor"), some (.lst [nD (pl a), nD (pl b)]), some (nD (pl a)), some (nD (pl b))]) rfl).trans ((chk_pass rfl).trans ((chk_pass rfl).trans ((chk_pass rfl).trans (hit rfl (retL_ok (pm_look n s rfl rfl (xaC_ok (upX_ok rfl) (xaC_ok (upX_ok rfl) xaN_ok)) rfl (xor_ok (by omega) _ _)) rfl)))))))
  | sub a b => exact (chk_pass rfl).trans ((chk_pass rfl).trans ((seq_next (e' := [some (s.d n), some (.str "sub"), some (.lst [nD (pl a), nD (pl b)]), some (nD (pl a)), some (nD (pl b))]) rfl).trans ((chk_pass rfl).trans ((chk_pass rfl).trans ((chk_pass rfl).trans ((chk_pass rfl).trans (hit rfl (retL_ok (pm_look n s rfl rfl (xaC_ok (upX_ok rfl) (xaC_ok (upX_ok rfl) xaN_ok)) rfl (dif_ok (by omega) _ _)) rfl))))))))
  | minus a =>
    have l1 := ones_len n s
    have l2 : (mAdd n (pl a) (mOnes n s).1 (mOnes n s).2).2.ds.length = (mOnes n s).2.ds.length + 1 := put_len n _ _
    exact (chk_pass rfl).trans ((chk_pass rfl).trans ((seq_next (e' := [some (s.d n), some (.str "minus"), some (.lst [nD (pl a)]), some (nD (pl a)), some (nD (pl a))]) rfl).trans ((chk_pass rfl).trans ((chk_pass rfl).trans ((chk_pass rfl).trans ((chk_pass rfl).trans ((chk_pass rfl).trans (hit rfl (retL_ok (pm_look n s (s1 := (mAdd n (pl a) (mOnes n s).1 (mOnes n s).2).2) rfl rfl
      (xaC_ok (pm_look n s (s1 := (mOnes n s).2) rfl rfl (xaC_ok (upX_ok rfl) (xaC_ok (pm_look n s rfl rfl xaN_ok rfl (ones_ok (by omega))) xaN_ok)) rfl (add_ok (by omega) _ _)) xaN_ok) rfl (opp_ok (by omega) _)) rfl)))))))))
  | shift a => exact (chk_pass rfl).trans ((chk_pass rfl).trans ((seq_next (e' := [some (s.d n), some (.str "shift"), some (.lst [nD (pl a)]), some (nD (pl a)), some (nD (pl a))]) rfl).trans ((chk_pass rfl).trans ((chk_pass rfl).trans ((chk_pass rfl).trans ((chk_pass rfl).trans ((chk_pass rfl).trans ((chk_pass rfl).trans (retL_ok (pm_look n s rfl rfl (xaC_ok (upX_ok rfl) (xaC_ok (upX_ok rfl) xaN_ok)) rfl (add_ok (by omega) _ _)) rfl)))))))))
  | add a b => exact (chk_pass rfl).trans ((chk_pass rfl).trans ((seq_next (e' := [some (s.d n), some (.str "add"), some (.lst [nD (pl a), nD (pl b)]), some (nD (pl a)), some (nD (pl b))]) rfl).trans ((chk_pass rfl).trans ((chk_pass rfl).trans ((chk_pass rfl).trans ((chk_pass rfl).trans ((chk_pass rfl).trans ((chk_pass rfl).trans (retL_ok (pm_look n s rfl rfl (xaC_ok (upX_ok rfl) (xaC_ok (upX_ok rfl) xaN_ok)) rfl (add_ok (by omega) _ _)) rfl)))))))))
/-! ### the walk over the row's deeds -/
def pwB : SM := (Py.ite (tst (bin oeq (bin oidx (var 3) (cst (.int 0))) (cst (.str "count")))) (appX 2 (lendM "PlainMaker" "put" 1 m_PlainMaker_put (xaC (upX (tupE (argS (slc (var 3) none (some (cst (.int 3)))) (argC (un btuple (lcE (iseq (bin oidx (var 3) (cst (.int 3)))) [4] (gnm 4) yes (bin oidx (var 2) (var 4)))) argN)))) xaN))) (appX 2 (lendM "PlainMaker" "made" 1 m_PlainMaker_made (xaC (upX (bin oidx (var 3) (cst (.int 0)))) (xaC (upX (lcE (iseq (slc (var 3) (some (cst (.int 1))) none)) [4] (gnm 4) yes (bin oidx (var 2) (var 4)))) xaN)))))
theorem appX_ok {i : Nat} {m : XM} {e e1 : Env} {xs0 xs : List D} {d : D} (h0 : e[i]? = some (some (.lst xs0))) (h : m e = .ok (d, e1)) (h1 : e1[i]? = some (some (.lst xs))) (hz : xs.length < SZ) : appX i m e = .ok (.next (e1.set i (some (.lst (xs ++ [d]))))) := by
  unfold appX
  rw [var_at h0, bind_ok]
  show (m e >>= _) = _
  rw [h, bind_ok, var_at h1, bind_ok]
  dsimp only
  rw [if_pos hz]
abbrev pwE (R : D) (n : Nat) (s : PM) (pls : List Nat) (o3 : Option D) : Env := [some R, some (s.d n), some (.lst (pls.map nD)), o3, none]
theorem places_ok {R : D} {n : Nat} {s : PM} {pls : List Nat} {X : D} {it : IM} {ps : List Nat} (hi : it (pwE R n s pls (some X)) = .ok (ps.map nD)) (hz : ps.length ≤ 1000) (hp : ∀ a ∈ ps, a < pls.length) :
    lcE it [4] (gnm 4) yes (bin oidx (var 2) (var 4)) (pwE R n s pls (some X)) = .ok (.lst (ps.map fun a => nD (at0 pls a))) :=
  lc_mapI (k := nD) (h := fun a => nD (at0 pls a)) hi (le_sz hz) fun a ha => ⟨_, rfl, bits_at (hp a ha)⟩
theorem nums_ok {N : Nat} {x : Deed} (hx : x.ok N) : (∀ a ∈ x.nums, a < N) ∧ x.nums.length ≤ 4 := by
  cases x with
  | count p r ps => exact ⟨hx.2.2.2.2, hx.2.2.2.1⟩
  | zero => exact ⟨by simp [Deed.nums], by simp [Deed.nums]⟩
  | ones => exact ⟨by simp [Deed.nums], by simp [Deed.nums]⟩
  | inv a => exact ⟨fun b hb => by rw [List.mem_singleton.mp hb]; exact hx, by simp [Deed.nums]⟩
  | shift a => exact ⟨fun b hb => by rw [List.mem_singleton.mp hb]; exact hx, by simp [Deed.nums]⟩
  | minus a => exact ⟨fun b hb => by rw [List.mem_singleton.mp hb]; exact hx, by simp [Deed.nums]⟩
  | and a b => exact ⟨fun c hc => by rcases List.mem_cons.mp hc with z | z; rw [z]; exact hx.1; rw [List.mem_singleton.mp z]; exact hx.2, by simp [Deed.nums]⟩
  | or a b => exact ⟨fun c hc => by rcases List.mem_cons.mp hc with z | z; rw [z]; exact hx.1; rw [List.mem_singleton.mp z]; exact hx.2, by simp [Deed.nums]⟩
  | xor a b => exact ⟨fun c hc => by rcases List.mem_cons.mp hc with z | z; rw [z]; exact hx.1; rw [List.mem_singleton.mp z]; exact hx.2, by simp [Deed.nums]⟩
  | add a b => exact ⟨fun c hc => by rcases List.mem_cons.mp hc with z | z; rw [z]; exact hx.1; rw [List.mem_singleton.mp z]; exact hx.2, by simp [Deed.nums]⟩
  | sub a b => exact ⟨fun c hc => by rcases List.mem_cons.mp hc with z | z; rw [z]; exact hx.1; rw [List.mem_singleton.mp z]; exact hx.2, by simp [Deed.nums]⟩
theorem slice1 {x : Deed} (hc : x.isCount = false) {e : Env} (h : e[3]? = some (some x.d)) : iseq (slc (var 3) (some (cst (.int 1))) none) e = .ok (x.nums.map nD) := by
  unfold iseq slc
  rw [var_at h]
  cases x <;> first | (cases hc; done) | rfl
theorem pw_step {R : D} {n : Nat} {s : PM} {pls : List Nat} (hz : s.ds.length + 99 < PMS) (hl : pls.length < 10000) {x : Deed} (hx : x.ok pls.length) (o3 : Option D) :
    pwB (pwE R n s pls (some x.d)) = .ok (.next (pwE R n (mDeed n (at0 pls) x s).2 (pls ++ [(mDeed n (at0 pls) x s).1]) (some x.d))) := by
  obtain ⟨hn, h4⟩ := nums_ok hx
  have hlt : (pls.map nD).length < SZ := by rw [List.length_map]; exact Nat.lt_trans hl (by decide)
  have e1 : pls.map nD ++ [nD (mDeed n (at0 pls) x s).1] = (pls ++ [(mDeed n (at0 pls) x s).1]).map nD := by simp
  cases hc : x.isCount with
  | false =>
    have ht : tst (bin oeq (bin oidx (var 3) (cst (.int 0))) (cst (.str "count"))) (pwE R n s pls (some x.d)) = .ok false := by
      cases x <;> first | (cases hc; done) | rfl
    unfold pwB Py.ite
    rw [ht, bind_ok, if_neg (by decide)]
    have hname : bin oidx (var 3) (cst (.int 0)) (pwE R n s pls (some x.d)) = .ok (.str x.name) := by
      cases x <;> rfl
    refine (appX_ok rfl (pm_look n s (e := pwE R n s pls (some x.d)) (i := 1) rfl rfl (xaC_ok (upX_ok hname) (xaC_ok (upX_ok (places_ok (slice1 hc rfl) (by omega) hn)) xaN_ok)) rfl (made_ok hz (at0 pls) x hc)) rfl hlt).trans ?_
    rw [e1]
    rfl
  | true =>
    cases x with
    | count p r ps =>
      have ht : tst (bin oeq (bin oidx (var 3) (cst (.int 0))) (cst (.str "count"))) (pwE R n s pls (some (Deed.count p r ps).d)) = .ok true := rfl
      unfold pwB Py.ite
      rw [ht, bind_ok, if_pos rfl]
      have hpl := places_ok (R := R) (n := n) (s := s) (X := (Deed.count p r ps).d) (it := iseq (bin oidx (var 3) (cst (.int 3)))) (ps := ps) rfl (by show ps.length ≤ 1000; have : ps.length ≤ 4 := h4; omega) hn
      have harg : tupE (argS (slc (var 3) none (some (cst (.int 3)))) (argC (un btuple (lcE (iseq (bin oidx (var 3) (cst (.int 3)))) [4] (gnm 4) yes (bin oidx (var 2) (var 4)))) argN)) (pwE R n s pls (some (Deed.count p r ps).d)) = .ok (Deed.count p r (ps.map (at0 pls))).d := by
        have hb : un btuple (lcE (iseq (bin oidx (var 3) (cst (.int 3)))) [4] (gnm 4) yes (bin oidx (var 2) (var 4))) (pwE R n s pls (some (Deed.count p r ps).d)) = .ok (.tup ((ps.map (at0 pls)).map nD)) := by
          unfold un
          rw [hpl, bind_ok, List.map_map]
          rfl
        unfold tupE argS
        have hs : slc (var 3) none (some (cst (.int 3))) (pwE R n s pls (some (Deed.count p r ps).d)) = .ok (.tup [.str "count", nD p, nD r]) := rfl
        rw [hs, bind_ok]
        dsimp only [seqOf]
        unfold argC
        rw [hb]
        rfl
      refine (appX_ok rfl (pm_look n s (e := pwE R n s pls (some (Deed.count p r ps).d)) (i := 1) rfl rfl (xaC_ok (upX_ok harg) xaN_ok) rfl (put_ok (by omega) _)) rfl hlt).trans ?_
      rw [show (mPut n (.count p r (ps.map (at0 pls))) s) = mDeed n (at0 pls) (.count p r ps) s from rfl, e1]
      rfl
    | _ => cases hc
end Py.U
namespace Py.U
open PySem
/-! ### a row from a list of deeds -/
theorem row_loop_l {n : Nat} {xs : List Deed} (hr : Row n xs) {S I O T T0 : D} (hI : I = nD n) : ∃ e', forL (forB (gtup [(gnm 5), (gnm 6)]) (Py.ite (notT (tst (call m_is_deed (argC (var 6) (argC (bin oadd (var 1) (var 5)) argN))))) (rais "InvalidRow" ["part", "place"] (argC (cst (.str "deeds")) (argC (var 5) argN))) skip)) (enumL 0 (xs.map Deed.d)) [some S, some I, some T0, some O, some T, none, none] = .ok (.next e') ∧
    ∃ o5 o6, e' = [some S, some I, some T0, some O, some T, o5, o6] := by
  refine forL_inv (fun k e => ∃ o5 o6, e = [some S, some I, some T0, some O, some T, o5, o6]) 0 ⟨none, none, rfl⟩ ?_
  rintro k e hk ⟨o5, o6, rfl⟩
  have hk2 : k < xs.length := by
    rw [enum_len, List.length_map] at hk
    exact hk
  have q := is_deed_ok (hr k hk2)
  have q2 : oadd I (.int (k : Int)) = .ok (nD (n + k)) := by
    rw [hI]
    unfold nD
    rw [oadd_ii]
    simp
  rw [enum_at hk (by simpa using hk2), List.getElem_map, Nat.zero_add]
  generalize nD (n + k) = Z at *
  generalize hX : xs[k].d = X at *
  generalize (k : Int) = z at *
  exact ⟨[some S, some I, some T0, some O, some T, some (.int z), some X], by simp [var, gtup, gtupL, q, q2], _, _, rfl⟩
theorem row_made_l {n out : Nat} {xs : List Deed} (h1 : 1 ≤ n) (h3 : n ≤ 3) (hr : Row n xs) (hz : xs.length ≤ 5000) (ho : out < n + xs.length) : m_Row [nD n, .lst (xs.map Deed.d), nD out] = .ok (rowD n xs out) := by
  have q1 := inputs_ok h1 h3
  have q2 := as_tup (xs.map Deed.d)
  have q3 : oisN (.tup (xs.map Deed.d)) = .ok (.bl false) := rfl
  obtain ⟨e', q4, o5, o6, rfl⟩ := row_loop_l (S := .ins "Row" []) (O := nD out) (T := .tup (xs.map Deed.d)) (T0 := .lst (xs.map Deed.d)) hr (I := nD n) rfl
  have q5 := is_below_ok out (n + xs.length)
  rw [decide_eq_true ho] at q5
  have q6 : oadd (nD n) (.int ((xs.map Deed.d).length : Int)) = .ok (nD (n + xs.length)) := by
    unfold nD
    rw [oadd_ii, List.length_map]
    simp
  have q7 : ienum (var 4) [some (.ins "Row" []), some (nD n), some (.lst (xs.map Deed.d)), some (nD out), some (.tup (xs.map Deed.d)), none, none] = .ok (enumL 0 (xs.map Deed.d)) := rfl
  have key : b_Row_init [some (.ins "Row" []), some (nD n), some (.lst (xs.map Deed.d)), some (nD out), none, none, none] = .ok (.next [some (rowD n xs out), some (nD n), some (.lst (xs.map Deed.d)), some (nD out), some (.tup (xs.map Deed.d)), o5, o6]) := by
    unfold b_Row_init rowD
    generalize xs.map Deed.d = Z at *
    generalize nD (n + xs.length) = M at *
    generalize nD n = N at *
    generalize nD out = U at *
    simp [var, q1, q2, q3, q4, q5, q6, q7, setF, putF]
  exact made_eq rfl key
/-! ### the plain row -/
theorem kds_take {xs : List Deed} {k : Nat} (hk : k < xs.length) : kds (xs.take (k + 1)) = kds (xs.take k) ++ mks xs[k] := by
  rw [List.take_add_one, List.getElem?_eq_getElem hk]
  show kds (xs.take k ++ [xs[k]]) = _
  rw [kds_snoc]
  unfold mks
  cases xs[k].marked <;> simp
theorem run_take (ms bs : List Nat) {xs : List Deed} {k : Nat} (hk : k < xs.length) : runD ms bs (xs.take (k + 1)) = stp ms (runD ms bs (xs.take k)) xs[k] := by
  rw [List.take_add_one, List.getElem?_eq_getElem hk]
  exact runD_snoc ms bs _ _
structure PJ (n : Nat) (xs : List Deed) (k : Nat) (s : PM) (pls : List Nat) : Prop where
  row : Row n s.ds
  plain : ∀ x ∈ s.ds, Pl x = true
  tops : kds s.ds = kds (xs.take k)
  pl : pls.length = n + k
  lt : ∀ j, j < n + k → at0 pls j < n + s.ds.length
  zf : ZF n s
  len : s.ds.length + (if s.z = none then 2 else 0) + (if s.f = none then 1 else 0) ≤ 7 * k + 3
  sem : ∀ ms bs, Bits bs → bs.length = n → Fit ms (Py.U.tops xs) → (∀ j, j < n + k → vl ms bs s (at0 pls j) = at0 (runD ms bs (xs.take k)).1 j) ∧ mkr ms bs s = (runD ms bs (xs.take k)).2
theorem PJ.step {n : Nat} (h1 : 1 ≤ n) {xs : List Deed} (hr : Row n xs) {k : Nat} (hk : k < xs.length) {s : PM} {pls : List Nat} (J : PJ n xs k s pls) : PJ n xs (k + 1) (mDeed n (at0 pls) xs[k] s).2 (pls ++ [(mDeed n (at0 pls) xs[k] s).1]) := by
  have O := deed_x (N := n + k) (pl := at0 pls) h1 J.plain J.zf (hr k hk) J.lt
  refine ⟨O.row J.row, O.plain, by rw [O.tops, J.tops, kds_take hk], by rw [List.length_append, J.pl]; rfl, fun j hj => ?_, O.zf, by have := O.len; have := J.len; omega, fun ms bs hb hl hf => ?_⟩
  · by_cases q : j < n + k
    · rw [at0_old (by rw [J.pl]; exact q)]
      have := J.lt j q
      have := O.len
      omega
    · rw [show j = n + k by omega, at0_new J.pl]
      exact O.lt
  · obtain ⟨e1, e2⟩ := J.sem ms bs hb hl hf
    have A := At.all hb hl hf hr k (by omega)
    have Ae : At n ms xs k (runD ms bs (xs.take k)) := A
    have hm : xs[k].marked = true → ms.getD (mkr ms bs s).length 0 < xs[k].top := fun hm => by
      rw [e2, Ae.fit.len]
      exact hf.at (tops_at hk hm)
    obtain ⟨g1, o1, v1, m1⟩ := O.sem ms bs (good_of J.plain hb hl) (runD ms bs (xs.take k)).1 Ae.bits e1 hm
    rw [run_take ms bs hk]
    have hv : (stp ms (runD ms bs (xs.take k)) xs[k]) = ((runD ms bs (xs.take k)).1 ++ [if xs[k].marked then xs[k].bit1 (runD ms bs (xs.take k)).1 (ms.getD (mkr ms bs s).length 0) else xs[k].bit0 (runD ms bs (xs.take k)).1], (runD ms bs (xs.take k)).2 ++ (if xs[k].marked then [xs[k].next (runD ms bs (xs.take k)).1 (ms.getD (mkr ms bs s).length 0)] else [])) := by
      rw [e2]
      cases hc : xs[k].marked with
      | true => rw [stp_m hc]; rfl
      | false => rw [stp_u hc]; simp
    rw [hv]
    refine ⟨fun j hj => ?_, by rw [m1, e2]⟩
    by_cases q : j < n + k
    · rw [at0_old (by rw [J.pl]; exact q), at0_old (by rw [Ae.len]; exact q), o1 _ (J.lt j q)]
      exact e1 j q
    · rw [show j = n + k by omega, at0_new J.pl, at0_new Ae.len]
      exact v1
theorem PJ.start (n : Nat) (xs : List Deed) : PJ n xs 0 ⟨[], none, none⟩ (List.range n) := by
  have ar : ∀ j, j < n → at0 (List.range n) j = j := fun j hj => by
    unfold at0
    simp [hj]
  refine ⟨fun k hk => by simp at hk, by simp, rfl, by simp, fun j hj => ?_, ⟨fun k hk => (nomatch hk), fun k hk => (nomatch hk)⟩, by simp, fun ms bs hb hl hf => ⟨fun j hj => ?_, rfl⟩⟩
  · rw [ar j (by omega)]
    exact hj
  · rw [ar j (by omega)]
    rfl
theorem pw_loop {n : Nat} (h1 : 1 ≤ n) (h3 : n ≤ 3) {xs : List Deed} (hr : Row n xs) (hz : xs.length ≤ 300) {R : D} :
    ∃ e', forL (forB (gnm 3) pwB) (xs.map Deed.d) (pwE R n ⟨[], none, none⟩ (List.range n) none) = .ok (.next e') ∧ ∃ s pls o3, e' = pwE R n s pls o3 ∧ PJ n xs xs.length s pls := by
  have q := forL_inv (b := forB (gnm 3) pwB) (xs := xs.map Deed.d) (e := pwE R n ⟨[], none, none⟩ (List.range n) none)
    (fun k e => ∃ s pls o3, e = pwE R n s pls o3 ∧ PJ n xs k s pls) 0 ⟨_, _, _, rfl, PJ.start n xs⟩ fun i e hi hI => ?_
  · rw [List.length_map, Nat.zero_add] at q
    exact q
  · obtain ⟨s, pls, o3, rfl, J⟩ := hI
    rw [List.length_map] at hi
    rw [Nat.zero_add] at J ⊢
    have hx : (xs.map Deed.d)[i]'(by rw [List.length_map]; exact hi) = xs[i].d := by simp
    rw [hx]
    have hl := J.len
    have hok : xs[i].ok pls.length := by rw [J.pl]; exact hr i hi
    exact ⟨_, pw_step (n := n) (s := s) (pls := pls) (by show s.ds.length + 99 < 100000; omega) (by rw [J.pl]; omega) hok o3, _, _, _, rfl, J.step h1 hr hi⟩
theorem maker_ok (n : Nat) : m_PlainMaker [nD n] = .ok (PM.d n ⟨[], none, none⟩) := by
  refine made_eq (p := 2) (n := 2) rfl (r := [some (nD n)]) ?_
  rfl
/-- the plain row of a row -/
structure PRow (n : Nat) (xs : List Deed) (out : Nat) (ys : List Deed) (o : Nat) : Prop where
  row : Row n ys
  plain : ∀ y ∈ ys, Pl y = true
  kd : kds ys = kds xs
  len : ys.length ≤ 7 * xs.length + 3
  lt : o < n + ys.length
  sem : ∀ ms l, Fit ms (tops xs) → at0 (runD ms (lb n l) ys).1 o = at0 (runD ms (lb n l) xs).1 out ∧ (runD ms (lb n l) ys).2 = (runD ms (lb n l) xs).2
theorem plain_row_ok {n out : Nat} (h1 : 1 ≤ n) (h3 : n ≤ 3) {xs : List Deed} (hr : Row n xs) (hz : xs.length ≤ 300) (ho : out < n + xs.length) : ∃ ys o, m_plain_row [rowD n xs out] = .ok (rowD n ys o) ∧ PRow n xs out ys o := by
  obtain ⟨e', hl, s, pls, o3, rfl, J⟩ := pw_loop h1 h3 hr hz (R := rowD n xs out)
  have J2 := J.sem
  rw [List.take_length] at J2
  have hlen := J.len
  refine ⟨s.ds, at0 pls out, ?_, ⟨J.row, J.plain, by rw [J.tops, List.take_length], by omega, J.lt out ho, fun ms l hf => ?_⟩⟩
  · unfold m_plain_row
    rw [fn1]
    have hm : call m_PlainMaker (argC (un (oattr ["Row"] "inputs") (var 0)) argN) [some (rowD n xs out), none, none, none, none] = .ok (PM.d n ⟨[], none, none⟩) := by
      show m_PlainMaker [nD n] = _
      exact maker_ok n
    have hrg : lrngE (irng1 (un (oattr ["Row"] "inputs") (var 0))) [some (rowD n xs out), some (PM.d n ⟨[], none, none⟩), none, none, none] = .ok (.lst ((List.range n).map nD)) := by
      unfold lrngE
      have := irng1_nat (a := un (oattr ["Row"] "inputs") (var 0)) (e := [some (rowD n xs out), some (PM.d n ⟨[], none, none⟩), none, none, none]) (n := n) rfl (rng_lt (by omega))
      rw [this, bind_ok, if_pos (by rw [List.length_map, List.length_range]; omega)]
      rfl
    have hi : iseq (un (oattr ["Row"] "deeds") (var 0)) (pwE (rowD n xs out) n ⟨[], none, none⟩ (List.range n) none) = .ok (xs.map Deed.d) := rfl
    show done ((seq (asg (gnm 1) (call m_PlainMaker (argC (un (oattr ["Row"] "inputs") (var 0)) argN)))
      (seq (asg (gnm 2) (lrngE (irng1 (un (oattr ["Row"] "inputs") (var 0)))))
      (seq (for_ (iseq (un (oattr ["Row"] "deeds") (var 0))) (gnm 3) pwB)
      (ret (call m_Row (argC (un (oattr ["Row"] "inputs") (var 0)) (argC (un (oattr ["PlainMaker"] "deeds") (var 1)) (argC (bin oidx (var 2) (un (oattr ["Row"] "out") (var 0))) argN)))))))) [some (rowD n xs out), none, none, none, none]) = _
    rw [asg_pass hm]
    refine (congrArg done (asg_pass hrg)).trans ?_
    show done (seq (for_ (iseq (un (oattr ["Row"] "deeds") (var 0))) (gnm 3) pwB) _ (pwE (rowD n xs out) n ⟨[], none, none⟩ (List.range n) none)) = _
    rw [for_pass hi hl]
    have hb : bin oidx (var 2) (un (oattr ["Row"] "out") (var 0)) (pwE (rowD n xs out) n s pls o3) = .ok (nD (at0 pls out)) := by
      show oidx (.lst (pls.map nD)) (nD out) = _
      exact bits_at (by rw [J.pl]; exact ho)
    have ha : argC (un (oattr ["Row"] "inputs") (var 0)) (argC (un (oattr ["PlainMaker"] "deeds") (var 1)) (argC (bin oidx (var 2) (un (oattr ["Row"] "out") (var 0))) argN)) (pwE (rowD n xs out) n s pls o3) = .ok [nD n, .lst (s.ds.map Deed.d), nD (at0 pls out)] := by
      have a1 : un (oattr ["Row"] "inputs") (var 0) (pwE (rowD n xs out) n s pls o3) = .ok (nD n) := rfl
      have a2 : un (oattr ["PlainMaker"] "deeds") (var 1) (pwE (rowD n xs out) n s pls o3) = .ok (.lst (s.ds.map Deed.d)) := rfl
      unfold argC
      rw [a1, bind_ok, a2, bind_ok, hb]
      rfl
    unfold ret call
    rw [ha, bind_ok, row_made_l h1 h3 J.row (by omega) (J.lt out ho)]
    rfl
  · obtain ⟨e1, e2⟩ := J2 ms (lb n l) (lb_bits n l) (lb_len n l) hf
    exact ⟨e1 out ho, e2⟩
end Py.U
namespace Py.U
open PySem
/-! ### draws, statements that give back -/
def RetP (Q : D → Prop) (f : Fl) : Prop := ∃ d, f = .ret d ∧ Q d
theorem done_r {Q : D → Prop} {r : Res Fl} (h : Always (RetP Q) r) : Always Q (done r) := Always.done (h.mono (by
  rintro f ⟨d, rfl, hd⟩
  exact hd))
theorem ret_r {Q : D → Prop} {m : EM} {e : Env} (h : Always Q (m e)) : Always (RetP Q) (ret m e) := by
  rw [ret_eq]
  exact h.bind fun d hd => ⟨d, rfl, hd⟩
theorem ret_1 {Q : D → Prop} {m : EM} {e : Env} {d : D} (h : m e = .ok d) (hd : Q d) : Always (RetP Q) (ret m e) := ret_r (by rw [h]; exact hd)
theorem ite_ret {Q : D → Prop} {t : TM} {b r : SM} {e : Env} (ht : t e = .ok true) (hb : Always (RetP Q) (b e)) : Always (RetP Q) (seq (Py.ite t b skip) r e) := by
  rw [seq_eq, ite_eq, ht, bind_ok, if_pos rfl]
  refine hb.bind ?_
  rintro f ⟨d, rfl, hd⟩
  exact ⟨d, rfl, hd⟩
theorem chk_p1 {P : Fl → Prop} {t : TM} {b r : SM} {e : Env} (ht : t e = .ok false) (k : Always P (r e)) : Always P (seq (Py.ite t b skip) r e) := by
  rw [chk_pass ht]
  exact k
theorem ite_any {P : Fl → Prop} {t : TM} {a b : SM} {e : Env} (ht : Always (fun _ => True) (t e)) (h1 : Always P (a e)) (h2 : Always P (b e)) : Always P (Py.ite t a b e) := by
  rw [ite_eq]
  refine ht.bind fun c _ => ?_
  cases c
  · exact h2
  · exact h1
theorem asg_d {P : Fl → Prop} {i : Nat} {m : EM} {r : SM} {e : Env} {d : D} (h : m e = .ok d) (k : Always P (r (e.set i (some d)))) : Always P (seq (asg (gnm i) m) r e) := by
  rw [asg_pass h]
  exact k
/-! ### deeds drawn -/
abbrev poolD : D := .drw (.inl false)
def DeedP (k : Nat) (d : D) : Prop := ∃ x : Deed, d = x.d ∧ x.ok k
def nmT : D := .tup [.str "add", .str "sub", .str "minus", .str "shift", .str "count", .str "and", .str "or", .str "xor", .str "not", .str "zero", .str "ones"]
def deC : SM := (seq (asg (gnm 5) (bin oidx (tupE (argC (cst (.int 2)) (argC (cst (.int 3)) (argC (cst (.int 5)) argN)))) (call m_law_pick (argC (var 0) (argC (cst (.int 3)) argN)))))
  (seq (asg (gnm 6) (call m_law_pick (argC (var 0) (argC (var 5) argN))))
  (seq (asg (gnm 7) (lstE (argC (var 4) argN)))
  (seq (for_ (irng1 (call m_law_pick (argC (var 0) (argC (cst (.int 4)) argN)))) (gnm 8) (app 7 (call m_law_pick (argC (var 0) (argC (var 1) argN)))))
  (ret (tupE (argC (var 3) (argC (var 5) (argC (var 6) (argC (un btuple (var 7)) argN))))))))))
def deT : SM := (seq (Py.ite (tst (bin oin (var 3) (tupE (argC (cst (.str "not")) (argC (cst (.str "shift")) (argC (cst (.str "minus")) argN)))))) (ret (tupE (argC (var 3) (argC (var 4) argN)))) skip)
  (seq (Py.ite (tst (bin oeq (var 3) (cst (.str "count")))) deC skip)
  (ret (tupE (argC (var 3) (argC (var 4) (argC (call m_law_pick (argC (var 0) (argC (var 1) argN))) argN)))))))
abbrev dE (k : Nat) (s : String) (a : Nat) : Env := [some poolD, some (nD k), some nmT, some (.str s), some (nD a), none, none, none, none]
theorem de_count {k a : Nat} (hk : 0 < k) (hk2 : k ≤ 1000) (ha : a < k) : Always (RetP (DeedP k)) (deC (dE k "count" a)) := by
  unfold deC
  refine asg_a (Q := fun d => ∃ p : Nat, d = nD p ∧ (p = 2 ∨ p = 3 ∨ p = 5)) ?_ ?_
  · rw [bin_eq]
    show Always _ (Res.ok (Py.D.tup [.int 2, .int 3, .int 5]) >>= fun x => call m_law_pick (argC (var 0) (argC (cst (.int 3)) argN)) (dE k "count" a) >>= fun y => oidx x y)
    rw [bind_ok]
    refine (pickc (Q := fun d => ∃ i : Nat, i < 3 ∧ d = nD i) 3 rfl rfl rfl (by omega) (by omega) fun i hi => ⟨i, hi, rfl⟩).bind ?_
    rintro _ ⟨i, hi, rfl⟩
    have : i = 0 ∨ i = 1 ∨ i = 2 := by omega
    rcases this with rfl | rfl | rfl
    · exact ⟨2, rfl, .inl rfl⟩
    · exact ⟨3, rfl, .inr (.inl rfl)⟩
    · exact ⟨5, rfl, .inr (.inr rfl)⟩
  rintro _ ⟨p, rfl, hp⟩
  refine asg_a (Q := fun d => ∃ r : Nat, d = nD r ∧ r < p) ?_ ?_
  · exact pickc p rfl rfl rfl (by omega) (by omega) fun i hi => ⟨i, rfl, hi⟩
  rintro _ ⟨r, rfl, hr⟩
  refine asg_d (d := .lst [nD a]) rfl ?_
  refine seq_a (I := fun e => ∃ (ps : List Nat) (o8 : Option D), 1 ≤ ps.length ∧ ps.length ≤ 4 ∧ (∀ x ∈ ps, x < k) ∧ e = [some poolD, some (nD k), some nmT, some (.str "count"), some (nD a), some (nD p), some (nD r), some (.lst (ps.map nD)), o8]) ?_ ?_
  · rw [for_eq]
    refine Always.bind (Q := fun ys => ∃ c : Nat, c < 4 ∧ ys = (List.range c).map nD) ?_ ?_
    · unfold irng1
      refine (pickc (Q := fun d => ∃ c : Nat, c < 4 ∧ d = nD c) 4 rfl rfl rfl (by omega) (by omega) fun i hi => ⟨i, hi, rfl⟩).bind ?_
      rintro _ ⟨c, hc, rfl⟩
      show Always _ (if ((c : Nat) : Int).natAbs < B62 then Res.ok (rngL 0 ((c : Nat) : Int)) else .stuck)
      rw [if_pos (Nat.lt_of_lt_of_le (show ((c : Nat) : Int).natAbs < 4 by omega) (by decide))]
      exact ⟨c, hc, rng_map c⟩
    · rintro _ ⟨c, hc, rfl⟩
      refine (forR_a (fun j e => ∃ (ps : List Nat) (o8 : Option D), ps.length = 1 + j ∧ (∀ x ∈ ps, x < k) ∧ e = [some poolD, some (nD k), some nmT, some (.str "count"), some (nD a), some (nD p), some (nD r), some (.lst (ps.map nD)), o8]) ⟨[a], none, rfl, fun x hx => by rw [List.mem_singleton.mp hx]; exact ha, rfl⟩ ?_).mono ?_
      · rintro j _ hj ⟨ps, o8, h1, h2, rfl⟩
        show Always _ (app 7 _ [some poolD, some (nD k), some nmT, some (.str "count"), some (nD a), some (nD p), some (nD r), some (.lst (ps.map nD)), some (nD j)])
        rw [app_eq, var_eq (d := .lst (ps.map nD)) rfl, bind_ok]
        refine (pickc (Q := fun d => ∃ b : Nat, b < k ∧ d = nD b) k rfl rfl rfl hk (by omega) fun i hi => ⟨i, hi, rfl⟩).bind ?_
        rintro _ ⟨b, hb, rfl⟩
        show Always _ (if (ps.map nD).length < SZ then _ else _)
        rw [if_pos (by rw [List.length_map, h1]; exact Nat.lt_of_le_of_lt (show 1 + j ≤ 5 by omega) (by decide))]
        refine ⟨_, rfl, ps ++ [b], some (nD j), by simp [h1]; omega, fun x hx => ?_, by rw [List.map_append]; rfl⟩
        rcases List.mem_append.mp hx with hx | hx
        · exact h2 x hx
        · rw [List.mem_singleton.mp hx]; exact hb
      · rintro _ ⟨_, rfl, ps, o8, h1, h2, rfl⟩
        exact ⟨_, rfl, ps, o8, by omega, by omega, h2, rfl⟩
  rintro _ ⟨ps, o8, h1, h4, hps, rfl⟩
  exact ret_1 (d := (Deed.count p r ps).d) rfl ⟨.count p r ps, rfl, hp, hr, h1, h4, hps⟩
theorem de_tail {k a : Nat} (hk : 0 < k) (hk2 : k ≤ 1000) (ha : a < k) {s : String} (hs : s ∈ ["and", "add", "sub", "minus", "shift", "count", "or", "xor", "not"]) : Always (RetP (DeedP k)) (deT (dE k s a)) := by
  have two : ∀ (s : String) (f : Nat → Deed), (∀ b, (f b).d = .tup [.str s, nD a, nD b]) → (∀ b, b < k → (f b).ok k) → Always (RetP (DeedP k)) (ret (tupE (argC (var 3) (argC (var 4) (argC (call m_law_pick (argC (var 0) (argC (var 1) argN))) argN)))) (dE k s a)) := fun s f hf ho => by
    refine ret_r ?_
    rw [tupE_eq]
    refine Always.bind (Q := fun xs => ∃ b : Nat, b < k ∧ xs = [.str s, nD a, nD b]) ?_ ?_
    · rw [argC_eq, var_eq (d := .str s) rfl, bind_ok, argC_eq, var_eq (d := nD a) rfl, bind_ok, argC_eq]
      refine Always.bind (Q := fun xs => ∃ b : Nat, b < k ∧ xs = [nD a, nD b]) (Always.bind (Q := fun xs => ∃ b : Nat, b < k ∧ xs = [nD b]) ((pickc (Q := fun d => ∃ b : Nat, b < k ∧ d = nD b) k rfl rfl rfl hk (by omega) fun i hi => ⟨i, hi, rfl⟩).bind ?_) ?_) ?_
      · rintro _ ⟨b, hb, rfl⟩
        exact ⟨b, hb, rfl⟩
      · rintro _ ⟨b, hb, rfl⟩
        exact ⟨b, hb, rfl⟩
      · rintro _ ⟨b, hb, rfl⟩
        exact ⟨b, hb, rfl⟩
    · rintro _ ⟨b, hb, rfl⟩
      exact ⟨f b, (hf b).symm, ho b hb⟩
  unfold deT
  simp only [List.mem_cons, List.not_mem_nil, or_false] at hs
  rcases hs with rfl | rfl | rfl | rfl | rfl | rfl | rfl | rfl | rfl
  · exact chk_p1 rfl (chk_p1 rfl (two "and" (.and a) (fun b => rfl) fun b hb => ⟨ha, hb⟩))
  · exact chk_p1 rfl (chk_p1 rfl (two "add" (.add a) (fun b => rfl) fun b hb => ⟨ha, hb⟩))
  · exact chk_p1 rfl (chk_p1 rfl (two "sub" (.sub a) (fun b => rfl) fun b hb => ⟨ha, hb⟩))
  · exact ite_ret rfl (ret_1 (d := (Deed.minus a).d) rfl ⟨.minus a, rfl, ha⟩)
  · exact ite_ret rfl (ret_1 (d := (Deed.shift a).d) rfl ⟨.shift a, rfl, ha⟩)
  · exact chk_p1 rfl (ite_ret rfl (de_count hk hk2 ha))
  · exact chk_p1 rfl (chk_p1 rfl (two "or" (.or a) (fun b => rfl) fun b hb => ⟨ha, hb⟩))
  · exact chk_p1 rfl (chk_p1 rfl (two "xor" (.xor a) (fun b => rfl) fun b hb => ⟨ha, hb⟩))
  · exact ite_ret rfl (ret_1 (d := (Deed.inv a).d) rfl ⟨.inv a, rfl, ha⟩)
theorem deed_ok {k : Nat} (hk : 0 < k) (hk2 : k ≤ 1000) : Always (DeedP k) (m_law_deed [poolD, nD k]) := by
  unfold m_law_deed
  rw [fn2]
  refine done_r ?_
  show Always _ (seq (asg (gnm 2) _) (seq (asg (gnm 3) _) (seq _ (seq (asg (gnm 4) _) deT))) [some poolD, some (nD k), none, none, none, none, none, none, none])
  refine asg_d (d := nmT) rfl ?_
  refine asg_a (Q := fun d => d ∈ [D.str "zero", .str "ones"] ∨ ∃ s, d = .str s ∧ s ∈ ["and", "add", "sub", "minus", "shift", "count", "or", "xor", "not"]) ?_ ?_
  · rw [bin_eq]
    show Always _ (Res.ok nmT >>= fun x => call m_law_pick (argC (var 0) (argC (cst (.int 11)) argN)) [some poolD, some (nD k), some nmT, none, none, none, none, none, none] >>= fun y => oidx x y)
    rw [bind_ok]
    refine (pickc (Q := fun d => ∃ i : Nat, i < 11 ∧ d = nD i) 11 rfl rfl rfl (by omega) (by omega) fun i hi => ⟨i, hi, rfl⟩).bind ?_
    rintro _ ⟨i, hi, rfl⟩
    have : i = 0 ∨ i = 1 ∨ i = 2 ∨ i = 3 ∨ i = 4 ∨ i = 5 ∨ i = 6 ∨ i = 7 ∨ i = 8 ∨ i = 9 ∨ i = 10 := by omega
    rcases this with rfl | rfl | rfl | rfl | rfl | rfl | rfl | rfl | rfl | rfl | rfl
    · exact .inr ⟨"add", rfl, by simp⟩
    · exact .inr ⟨"sub", rfl, by simp⟩
    · exact .inr ⟨"minus", rfl, by simp⟩
    · exact .inr ⟨"shift", rfl, by simp⟩
    · exact .inr ⟨"count", rfl, by simp⟩
    · exact .inr ⟨"and", rfl, by simp⟩
    · exact .inr ⟨"or", rfl, by simp⟩
    · exact .inr ⟨"xor", rfl, by simp⟩
    · exact .inr ⟨"not", rfl, by simp⟩
    · exact .inl (List.mem_cons_self)
    · exact .inl (List.mem_cons_of_mem _ List.mem_cons_self)
  rintro d (hd | ⟨s, rfl, hs⟩)
  · rcases List.mem_cons.mp hd with rfl | hd
    · exact ite_ret rfl (ret_1 (d := Deed.zero.d) rfl ⟨.zero, rfl, trivial⟩)
    · rw [List.mem_singleton.mp hd]
      exact ite_ret rfl (ret_1 (d := Deed.ones.d) rfl ⟨.ones, rfl, trivial⟩)
  refine chk_p1 ?_ ?_
  · simp only [List.mem_cons, List.not_mem_nil, or_false] at hs
    rcases hs with rfl | rfl | rfl | rfl | rfl | rfl | rfl | rfl | rfl <;> rfl
  refine asg_a (Q := fun d => ∃ a : Nat, d = nD a ∧ a < k) (pickc k rfl rfl rfl hk (by omega) fun i hi => ⟨i, rfl, hi⟩) ?_
  rintro _ ⟨a, rfl, ha⟩
  exact de_tail hk hk2 ha hs
theorem app_a {P : Fl → Prop} {Q : D → Prop} {i : Nat} {m : EM} {e : Env} {xs : List D} (h : e[i]? = some (some (.lst xs))) (hz : xs.length < SZ) (hm : Always Q (m e)) (k : ∀ d, Q d → P (.next (e.set i (some (.lst (xs ++ [d])))))) : Always P (app i m e) := by
  rw [app_eq, var_eq h, bind_ok]
  refine hm.bind fun d hd => ?_
  show Always P (if xs.length < SZ then _ else _)
  rw [if_pos hz]
  exact k d hd
theorem ogt_n (a b : Nat) : ogt (nD a) (nD b) = .ok (.bl (decide (b < a))) := oltN b a
theorem fdiv_n {a b : Nat} (h0 : 0 < b) (h1 : b < 1000000) : ofdiv (nD a) (nD b) = .ok (nD (a / b)) := by
  unfold nD
  rw [ofdiv_ii (by omega)]
  simp
theorem wt_le {n : Nat} {x : Deed} (h : x.ok n) : 1 ≤ x.wt ∧ x.wt ≤ 5 := by
  unfold Deed.wt
  cases x with
  | count p r ps =>
    obtain ⟨hp, _⟩ := h
    show 1 ≤ p ∧ p ≤ 5
    omega
  | _ => simp [Deed.marked, Deed.top]
/-! ### the row's deeds -/
theorem ok_mono {x : Deed} {m n : Nat} (h : x.ok m) (hm : m ≤ n) : x.ok n := by
  cases x with
  | zero => trivial
  | ones => trivial
  | inv a => exact Nat.lt_of_lt_of_le h hm
  | shift a => exact Nat.lt_of_lt_of_le h hm
  | minus a => exact Nat.lt_of_lt_of_le h hm
  | count p r ps => exact ⟨h.1, h.2.1, h.2.2.1, h.2.2.2.1, fun a ha => Nat.lt_of_lt_of_le (h.2.2.2.2 a ha) hm⟩
  | _ => exact ⟨Nat.lt_of_lt_of_le h.1 hm, Nat.lt_of_lt_of_le h.2 hm⟩
theorem hk_nums (ps : List Nat) (n : Nat) : (ps.map nD).all (hk n) = true := by
  rw [List.all_map]
  exact List.all_eq_true.mpr fun a _ => by cases n <;> rfl
theorem key_deed (x : Deed) : keyOk true x.d = true := by
  cases x with
  | count p r ps =>
    show hk 8 (.tup [.str "count", nD p, nD r, .tup (ps.map nD)]) = true
    simp only [hk, List.all_cons, List.all_nil, nD, Bool.true_and, Bool.and_true]
    have := hk_nums ps 6
    simpa [nD] using this
  | _ => rfl
theorem put_len' (k v : D) : ∀ kvs : List (D × D), (putD k v kvs).length ≤ kvs.length + 1
  | [] => Nat.le_refl _
  | (a, x) :: r => by
    unfold putD
    split
    · simp
    · have := put_len' k v r
      simp
      omega
def ldN : SM := (Py.ite (tst (bin onotin (var 7) (var 5))) (Py.ite (tst (bin ogt (call m_law_weight (argC (var 7) argN)) (var 3))) (asg (gnm 7) (tupE (argC (cst (.str "xor")) (argC (call m_law_pick (argC (var 0) (argC (bin oadd (var 1) (var 6)) argN))) (argC (bin osub (bin oadd (var 1) (var 6)) (cst (.int 1))) argN))))) (asg (gnm 3) (bin ofdiv (var 3) (call m_law_weight (argC (var 7) argN))))) skip)
def ldT : SM := (seq (setL 5 (var 7) (cst (.bl true)))
  (app 4 (var 7)))
def ldR : SM := (Py.ite (andT (tst (bin ogt (var 6) (cst (.int 12)))) (tst (bin ogt (call m_law_pick (argC (var 0) (argC (cst (.int 4)) argN))) (cst (.int 0))))) (asg (gnm 7) (bin oidx (var 4) (call m_law_pick (argC (var 0) (argC (var 6) argN))))) skip)
def ldB : SM := (seq (asg (gnm 7) (call m_law_deed (argC (var 0) (argC (bin oadd (var 1) (var 6)) argN)))) (seq ldR (seq ldN ldT)))
abbrev ldE (n sz rm : Nat) (xs : List Deed) (kvs : List (D × D)) (o6 o7 : Option D) : Env := [some poolD, some (nD n), some (nD sz), some (nD rm), some (.lst (xs.map Deed.d)), some (.dic true kvs), o6, o7]
def LdI (n sz k : Nat) (xs : List Deed) (kvs : List (D × D)) (e : Env) : Prop := ∃ (rm : Nat) (x : Deed), x.ok (n + k) ∧ e = ldE n sz rm xs kvs (some (nD k)) (some x.d)
theorem ld_new {n sz rm k : Nat} {xs : List Deed} {kvs : List (D × D)} {x : Deed} (hk : 0 < n + k) (hk2 : n + k ≤ 1000) (hx : x.ok (n + k)) : Always (NX (LdI n sz k xs kvs)) (ldN (ldE n sz rm xs kvs (some (nD k)) (some x.d))) := by
  have hw := weight_ok x
  obtain ⟨w1, w5⟩ := wt_le hx
  have ht : tst (bin onotin (var 7) (var 5)) (ldE n sz rm xs kvs (some (nD k)) (some x.d)) = .ok (!(find x.d kvs).isSome) := by
    show (onotin x.d (.dic true kvs)) >>= truthy = _
    have hk := key_deed x
    cases x <;> simp only [onotin, hk, Deed.d, if_true, bind_ok] at hk ⊢ <;> first | (rw [if_pos hk]; rfl) | rfl
  unfold ldN
  refine ite_a ht (fun _ => ?_) fun _ => ⟨_, rfl, rm, x, hx, rfl⟩
  have hg := ogt_n x.wt rm
  refine ite_a (c := decide (rm < x.wt)) ?_ (fun _ => ?_) fun h => ?_
  · show (m_law_weight [x.d] >>= fun y => ogt y (nD rm)) >>= truthy = _
    rw [hw, bind_ok, hg]
    rfl
  · have ha := nadd n k
    have hs := nsub (a := n + k) (b := 1) hk
    refine asg_1 (Q := fun d => ∃ x : Deed, x.ok (n + k) ∧ d = x.d) ?_ ?_
    · rw [tupE_eq]
      refine Always.bind (Q := fun ys => ∃ a : Nat, a < n + k ∧ ys = [.str "xor", nD a, nD (n + k - 1)]) ?_ ?_
      · rw [argC_eq]
        show Always _ (Res.ok (D.str "xor") >>= _)
        rw [bind_ok, argC_eq]
        refine Always.bind (Q := fun ys => ∃ a : Nat, a < n + k ∧ ys = [nD a, nD (n + k - 1)]) ?_ ?_
        · refine Always.bind (Q := fun d => ∃ a : Nat, a < n + k ∧ d = nD a) ?_ ?_
          · refine pickc (n + k) rfl (d := nD (n + k)) ?_ rfl hk (by omega) fun i hi => ⟨i, hi, rfl⟩
            exact ha
          · rintro _ ⟨a, hl, rfl⟩
            have e1 : argC (bin osub (bin oadd (var 1) (var 6)) (cst (.int 1))) argN (ldE n sz rm xs kvs (some (nD k)) (some x.d)) = .ok [nD (n + k - 1)] := by
              show (oadd (nD n) (nD k) >>= fun x => osub x (nD 1)) >>= _ = _
              rw [ha, bind_ok, hs]
              rfl
            rw [e1]
            exact ⟨a, hl, rfl⟩
        · rintro _ ⟨a, hl, rfl⟩
          exact ⟨a, hl, rfl⟩
      · rintro _ ⟨a, hl, rfl⟩
        exact ⟨.xor a (n + k - 1), ⟨hl, by omega⟩, rfl⟩
    · rintro _ ⟨y, h1, rfl⟩
      exact ⟨_, rfl, rm, y, h1, rfl⟩
  · have hd := fdiv_n (a := rm) (b := x.wt) w1 (by omega)
    refine asg_1 (Q := fun d => d = nD (rm / x.wt)) ?_ ?_
    · have : bin ofdiv (var 3) (call m_law_weight (argC (var 7) argN)) (ldE n sz rm xs kvs (some (nD k)) (some x.d)) = .ok (nD (rm / x.wt)) := by
        show (Res.ok (nD rm) >>= fun a => m_law_weight [x.d] >>= fun b => ofdiv a b) = _
        rw [bind_ok, hw, bind_ok, hd]
      rw [this]
      rfl
    · rintro _ rfl
      exact ⟨_, rfl, rm / x.wt, x, hx, rfl⟩
theorem ld_re {n sz rm k : Nat} {xs : List Deed} {kvs : List (D × D)} {x : Deed} (hk2 : n + k ≤ 1000) (hl : xs.length = k) (hr : Row n xs) (hx : x.ok (n + k)) : Always (NX (LdI n sz k xs kvs)) (ldR (ldE n sz rm xs kvs (some (nD k)) (some x.d))) := by
  unfold ldR
  have hg := ogt_n k 12
  by_cases h12 : 12 < k
  · refine ite_any ?_ ?_ ⟨_, rfl, rm, x, hx, rfl⟩
    · show Always _ (((ogt (nD k) (nD 12)) >>= truthy) >>= fun b => if b then _ else .ok false)
      rw [hg, decide_eq_true h12]
      show Always _ ((call m_law_pick (argC (var 0) (argC (cst (.int 4)) argN)) (ldE n sz rm xs kvs (some (nD k)) (some x.d)) >>= fun y => ogt y (nD 0)) >>= truthy)
      refine Always.bind (Q := fun d => ∃ b : Bool, d = .bl b) (Always.bind (Q := fun d => ∃ i : Nat, d = nD i) (pickc 4 rfl rfl rfl (by omega) (by omega) fun i hi => ⟨i, rfl⟩) ?_) ?_
      · rintro _ ⟨i, rfl⟩
        rw [ogt_n]
        exact ⟨_, rfl⟩
      · rintro _ ⟨b, rfl⟩
        exact trivial
    · refine asg_1 (Q := fun d => ∃ y : Deed, y.ok (n + k) ∧ d = y.d) ?_ ?_
      · rw [bin_eq, var_eq (d := .lst (xs.map Deed.d)) rfl, bind_ok]
        refine Always.bind (Q := fun d => ∃ i : Nat, i < k ∧ d = nD i) (pickc k rfl rfl rfl (by omega) (by omega) fun i hi => ⟨i, hi, rfl⟩) ?_
        rintro _ ⟨i, hi, rfl⟩
        have hi' : i < xs.length := by omega
        have : oidx (.lst (xs.map Deed.d)) (nD i) = .ok xs[i].d := oidx_l (by simp [hi'])
        rw [this]
        exact ⟨xs[i], ok_mono (hr i hi') (by omega), rfl⟩
      · rintro _ ⟨y, h1, rfl⟩
        exact ⟨_, rfl, rm, y, h1, rfl⟩
  · have ht : andT (tst (bin ogt (var 6) (cst (.int 12)))) (tst (bin ogt (call m_law_pick (argC (var 0) (argC (cst (.int 4)) argN))) (cst (.int 0)))) (ldE n sz rm xs kvs (some (nD k)) (some x.d)) = .ok false := by
      show (((ogt (nD k) (nD 12)) >>= truthy) >>= fun b => if b then _ else .ok false) = _
      rw [hg, decide_eq_false h12]
      rfl
    exact ite_a ht (fun h => nomatch h) fun _ => ⟨_, rfl, rm, x, hx, rfl⟩
theorem ld_body {n sz k : Nat} (hn : 1 ≤ n) (hk2 : n + k ≤ 1000) {rm : Nat} {xs : List Deed} {kvs : List (D × D)} {o6 o7 : Option D} (hl : xs.length = k) (hr : Row n xs) (hkv : kvs.length ≤ k) :
    Always (NX fun e => ∃ (ys : List Deed) (rm' : Nat) (kvs' : List (D × D)) (o6 o7 : Option D), ys.length = k + 1 ∧ Row n ys ∧ kvs'.length ≤ k + 1 ∧ e = ldE n sz rm' ys kvs' o6 o7) (forB (gnm 6) ldB (nD k) (ldE n sz rm xs kvs o6 o7)) := by
  show Always _ (ldB (ldE n sz rm xs kvs (some (nD k)) o7))
  unfold ldB
  have ha := nadd n k
  refine asg_a (Q := DeedP (n + k)) ?_ ?_
  · have e1 : call m_law_deed (argC (var 0) (argC (bin oadd (var 1) (var 6)) argN)) (ldE n sz rm xs kvs (some (nD k)) o7) = m_law_deed [poolD, nD (n + k)] := by
      show (Res.ok poolD >>= fun x => (oadd (nD n) (nD k) >>= fun y => Res.ok [y]) >>= fun ys => Res.ok (x :: ys)) >>= m_law_deed = _
      rw [ha]
      rfl
    rw [e1]
    exact deed_ok (by omega) hk2
  rintro _ ⟨x, rfl, hx⟩
  refine seq_a (I := LdI n sz k xs kvs) (ld_re hk2 hl hr hx) ?_
  rintro _ ⟨rm1, x1, hx1, rfl⟩
  refine seq_a (I := LdI n sz k xs kvs) (ld_new (by omega) hk2 hx1) ?_
  rintro _ ⟨rm2, x2, hx2, rfl⟩
  unfold ldT
  have hs : setL 5 (var 7) (cst (.bl true)) (ldE n sz rm2 xs kvs (some (nD k)) (some x2.d)) = .ok (.next (ldE n sz rm2 xs (putD x2.d (.bl true) kvs) (some (nD k)) (some x2.d))) := by
    unfold setL
    rw [var_at (d := .dic true kvs) rfl, bind_ok]
    show (if keyOk true x2.d && decide (kvs.length < SZ) then _ else _) = _
    rw [if_pos (by rw [key_deed, decide_eq_true (Nat.lt_of_le_of_lt (show kvs.length ≤ 1000 by omega) (by decide))]; rfl)]
    rfl
  rw [seq_next hs]
  refine app_a (Q := fun d => d = x2.d) (xs := xs.map Deed.d) rfl (by rw [List.length_map, hl]; exact Nat.lt_of_le_of_lt (show k ≤ 1000 by omega) (by decide)) rfl ?_
  rintro _ rfl
  refine ⟨_, rfl, xs ++ [x2], rm2, putD x2.d (.bl true) kvs, some (nD k), some x2.d, by simp [hl], hr.snoc (by rw [hl]; exact hx2), ?_, ?_⟩
  · have := put_len' x2.d (.bl true) kvs
    omega
  · simp only [ldE, List.map_append]
    rfl
theorem deeds_ok {n sz room : Nat} (hn : 1 ≤ n) (hz : n + sz ≤ 1000) : Always (fun d => ∃ xs : List Deed, d = .lst (xs.map Deed.d) ∧ xs.length = sz ∧ Row n xs) (m_law_deeds [poolD, nD n, nD sz, nD room]) := by
  unfold m_law_deeds
  rw [fn4]
  refine done_r ?_
  unfold b__law_deeds
  show Always _ (seq (asg (gnm 4) (lstE argN)) (seq (asg (gnm 5) (dic0 true)) (seq (for_ (irng1 (var 2)) (gnm 6) ldB) (ret (var 4)))) [some poolD, some (nD n), some (nD sz), some (nD room), none, none, none, none])
  refine asg_d (d := .lst []) rfl (asg_d (d := .dic true []) rfl ?_)
  refine for_s (I := fun e => ∃ (ys : List Deed) (rm' : Nat) (kvs : List (D × D)) (o6 o7 : Option D), ys.length = sz ∧ Row n ys ∧ kvs.length ≤ sz ∧ e = ldE n sz rm' ys kvs o6 o7) (irng_n (n := sz) rfl (by omega)) ?_ ?_
  · refine forR_a (fun k e => ∃ (ys : List Deed) (rm' : Nat) (kvs : List (D × D)) (o6 o7 : Option D), ys.length = k ∧ Row n ys ∧ kvs.length ≤ k ∧ e = ldE n sz rm' ys kvs o6 o7) ⟨[], room, [], none, none, rfl, fun k hk => absurd hk (by simp), Nat.le_refl _, rfl⟩ ?_
    rintro k _ hk ⟨ys, rm', kvs, o6, o7, h1, h2, h3, rfl⟩
    exact ld_body hn (by omega) h1 h2 h3
  · rintro _ ⟨ys, rm', kvs, o6, o7, h1, h2, h3, rfl⟩
    exact ret_1 (d := .lst (ys.map Deed.d)) rfl ⟨ys, rfl, h1, h2⟩
end Py.U
namespace Py.U
open PySem
theorem compL_fil {β : Type} {f : D → Res (Option D)} {k : β → D} {p : β → Bool} : ∀ {ys : List β}, (∀ y ∈ ys, f (k y) = .ok (if p y then some (k y) else none)) → compL f (ys.map k) = .ok ((ys.filter p).map k)
  | [], _ => rfl
  | y :: ys, h => by
    rw [List.map_cons]
    unfold compL
    rw [h y List.mem_cons_self, bind_ok, compL_fil fun z hz => h z (List.mem_cons_of_mem _ hz), bind_ok, List.filter_cons]
    cases p y <;> rfl
theorem lc_fil {β : Type} {it : IM} {vs : List Nat} {j : Nat} {t : TM} {e : Env} {ys : List β} {k : β → D} {p : β → Bool} (hi : it e = .ok (ys.map k)) (hz : ys.length ≤ SZ) (hj : j < (wipe e vs).length) (ht : ∀ y ∈ ys, t ((wipe e vs).set j (some (k y))) = .ok (p y)) : lcE it vs (gnm j) t (var j) e = .ok (.lst ((ys.filter p).map k)) := by
  unfold lcE
  rw [hi]
  have q : compL (compF vs (gnm j) t (var j) e) (ys.map k) = .ok ((ys.filter p).map k) := compL_fil fun y hy => by
    unfold compF
    rw [gnm_eq]
    show (lift (some _) >>= _) = _
    rw [lift_some, bind_ok, ht y hy, bind_ok]
    cases p y
    · rfl
    · rw [if_pos rfl, if_pos rfl, var_eq (d := k y) (by rw [List.getElem?_set_self hj])]
      rfl
  simp only [bind_ok, q, noexc_ok, List.length_map]
  exact chk_ok hz
/-! ### small checks -/
theorem one_refl {d : D} (h : plain d = true) : Py.one d d = .ok (.bl false) := by
  unfold Py.one
  rw [h, eqv_refl 64 _ h]
  rfl
theorem deed_pl (x : Deed) : pl 63 x.d = true := by
  cases x with
  | count p r ps =>
    show ([D.str "count", nD p, nD r, .tup (ps.map nD)].all (pl 62)) = true
    have : pl 62 (.tup (ps.map nD)) = true := by
      show ((ps.map nD).all (pl 61)) = true
      rw [List.all_eq_true]
      intro d hd
      obtain ⟨a, _, rfl⟩ := List.mem_map.mp hd
      rfl
    simp only [List.all_cons, List.all_nil, this, Bool.and_true]
    rfl
  | _ => rfl
theorem deeds_plain (xs : List Deed) : plain (.tup (xs.map Deed.d)) = true := by
  show ((xs.map Deed.d).all (pl 63)) = true
  rw [List.all_eq_true]
  intro d hd
  obtain ⟨x, _, rfl⟩ := List.mem_map.mp hd
  exact deed_pl x
theorem ite_t {t : TM} {a b : SM} {e : Env} (h : t e = .ok true) : Py.ite t a b e = a e := by unfold Py.ite; rw [h]; rfl
theorem ite_f {t : TM} {a b : SM} {e : Env} (h : t e = .ok false) : Py.ite t a b e = b e := by unfold Py.ite; rw [h]; rfl
theorem nt {m : EM} {e : Env} (h : m e = .ok (.bl true)) : notT (tst m) e = .ok false := by unfold notT tst; rw [h]; rfl
theorem orF {a b : TM} {e : Env} (ha : a e = .ok false) (hb : b e = .ok false) : orT a b e = .ok false := by unfold orT; rw [ha]; exact hb
theorem tf {m : EM} {e : Env} (h : m e = .ok (.bl false)) : tst m e = .ok false := by unfold tst; rw [h]; rfl
theorem tt {m : EM} {e : Env} {b : Bool} (h : m e = .ok (.bl b)) : tst m e = .ok b := by unfold tst; rw [h]; rfl
theorem one_n (a b : Nat) : Py.one (nD a) (nD b) = .ok (.bl (!decide (a = b))) := by
  have h := nat_eq a b
  unfold oeq at h
  unfold Py.one
  split at h
  · rename_i z
    rw [if_pos z]
    injection h with h
    injection h with h
    rw [h]
  · cases h
theorem number_ok (a b : Nat) : m_law_number [nD a, nD b] = .ok (.bl (decide (a < b))) := by
  have h0 : oisi CS [.int] (nD a) = .ok (.bl true) := rfl
  have h00 : oisi CS [.bl] (nD a) = .ok (.bl false) := rfl
  have h1 : ole (.int 0) (nD a) = .ok (.bl true) := by
    unfold nD
    rw [ole_ii, decide_eq_true (by omega)]
  have h2 : olt (nD a) (nD b) = .ok (.bl (decide (a < b))) := by
    unfold nD
    rw [olt_ii]
    congr 2
    exact decide_eq_decide.mpr (by omega)
  unfold m_law_number
  rw [fn2]
  unfold b__law_number
  generalize nD a = A at *
  generalize nD b = B at *
  generalize (.bl (decide (a < b)) : D) = Z at *
  simp [var, h0, h00, h1, h2, onb]
theorem number_t {a b : Nat} (h : a < b) : m_law_number [nD a, nD b] = .ok (.bl true) := by rw [number_ok, decide_eq_true h]
/-! ### a plain deed -/
def pdB : SM := (Py.ite (notT (tst (call m_law_number (argC (var 3) (argC (var 1) argN))))) (ret (cst (.bl false))) skip)
theorem pd_loop {X R : D} {k : Nat} : ∀ (ps : List Nat) (o3 : Option D), (∀ a ∈ ps, a < k) → ∃ o3', forL (forB (gnm 3) pdB) (ps.map nD) [some X, some (nD k), some R, o3] = .ok (.next [some X, some (nD k), some R, o3'])
  | [], o3, _ => ⟨o3, rfl⟩
  | a :: ps, o3, h => by
    obtain ⟨o', h'⟩ := pd_loop (X := X) (R := R) ps (some (nD a)) fun b hb => h b (List.mem_cons_of_mem _ hb)
    refine ⟨o', ?_⟩
    rw [List.map_cons]
    unfold forL
    have hb : forB (gnm 3) pdB (nD a) [some X, some (nD k), some R, o3] = .ok (.next [some X, some (nD k), some R, some (nD a)]) := by
      show pdB [some X, some (nD k), some R, some (nD a)] = _
      unfold pdB
      exact ite_f (nt (show call m_law_number (argC (var 3) (argC (var 1) argN)) [some X, some (nD k), some R, some (nD a)] = .ok (.bl true) from number_t (h a List.mem_cons_self)))
    rw [hb, bind_ok]
    exact h'
def pdM : SM := (Py.ite (tst (bin oeq (bin oidx (var 0) (cst (.int 0))) (cst (.str "count")))) (seq (Py.ite (orT (tst (bin Py.one (un blen (var 0)) (cst (.int 4)))) (orT (notT (tst (call m_law_number (argC (bin oidx (var 0) (cst (.int 1))) (argC (cst (.int 6)) argN))))) (tst (bin onotin (bin oidx (var 0) (cst (.int 1))) (tupE (argC (cst (.int 2)) (argC (cst (.int 3)) (argC (cst (.int 5)) argN)))))))) (ret (cst (.bl false))) skip)
  (seq (Py.ite (orT (notT (tst (call m_law_number (argC (bin oidx (var 0) (cst (.int 2))) (argC (bin oidx (var 0) (cst (.int 1))) argN))))) (orT (notT (tst (un (oisi CS [.tup]) (bin oidx (var 0) (cst (.int 3)))))) (tst (bin onotin (un blen (bin oidx (var 0) (cst (.int 3)))) (tupE (argC (cst (.int 1)) (argC (cst (.int 2)) (argC (cst (.int 3)) (argC (cst (.int 4)) argN))))))))) (ret (cst (.bl false))) skip)
  (asg (gnm 2) (bin oidx (var 0) (cst (.int 3)))))) (Py.ite (tst (bin oeq (bin oidx (var 0) (cst (.int 0))) (cst (.str "not")))) (Py.ite (tst (bin Py.one (un blen (var 0)) (cst (.int 2)))) (ret (cst (.bl false))) skip) (Py.ite (orT (tst (bin onotin (bin oidx (var 0) (cst (.int 0))) (tupE (argC (cst (.str "and")) (argC (cst (.str "add")) argN))))) (tst (bin Py.one (un blen (var 0)) (cst (.int 3))))) (ret (cst (.bl false))) skip)))
theorem pd_mid {x : Deed} (hp : Pl x = true) {k : Nat} (hx : x.ok k) : ∃ R, iseq (var 2) [some x.d, some (nD k), some R, none] = .ok (x.nums.map nD) ∧ pdM [some x.d, some (nD k), some (.tup (match x.d with | .tup ds => ds.drop 1 | _ => [])), none] = .ok (.next [some x.d, some (nD k), some R, none]) := by
  cases x with
  | inv a => exact ⟨.tup [nD a], rfl, rfl⟩
  | and a b => exact ⟨.tup [nD a, nD b], rfl, rfl⟩
  | add a b => exact ⟨.tup [nD a, nD b], rfl, rfl⟩
  | count p r ps =>
    obtain ⟨q1, q2, q3, q4, q5⟩ := hx
    refine ⟨.tup (ps.map nD), rfl, ?_⟩
    unfold pdM
    have h0 : tst (bin oeq (bin oidx (var 0) (cst (.int 0))) (cst (.str "count"))) [some (Deed.count p r ps).d, some (nD k), some (.tup [nD p, nD r, .tup (ps.map nD)]), none] = .ok true := rfl
    show Py.ite _ _ _ [some (Deed.count p r ps).d, some (nD k), some (.tup [nD p, nD r, .tup (ps.map nD)]), none] = _
    rw [ite_t h0]
    have c1 : call m_law_number (argC (bin oidx (var 0) (cst (.int 1))) (argC (cst (.int 6)) argN)) [some (Deed.count p r ps).d, some (nD k), some (.tup [nD p, nD r, .tup (ps.map nD)]), none] = .ok (.bl true) := number_t (b := 6) (by omega)
    have c2 : call m_law_number (argC (bin oidx (var 0) (cst (.int 2))) (argC (bin oidx (var 0) (cst (.int 1))) argN)) [some (Deed.count p r ps).d, some (nD k), some (.tup [nD p, nD r, .tup (ps.map nD)]), none] = .ok (.bl true) := number_t q2
    have c3 : tst (bin onotin (bin oidx (var 0) (cst (.int 1))) (tupE (argC (cst (.int 2)) (argC (cst (.int 3)) (argC (cst (.int 5)) argN))))) [some (Deed.count p r ps).d, some (nD k), some (.tup [nD p, nD r, .tup (ps.map nD)]), none] = .ok false := by
      rcases q1 with rfl | rfl | rfl <;> rfl
    have c4 : tst (bin onotin (un blen (bin oidx (var 0) (cst (.int 3)))) (tupE (argC (cst (.int 1)) (argC (cst (.int 2)) (argC (cst (.int 3)) (argC (cst (.int 4)) argN)))))) [some (Deed.count p r ps).d, some (nD k), some (.tup [nD p, nD r, .tup (ps.map nD)]), none] = .ok false := by
      have e1 : un blen (bin oidx (var 0) (cst (.int 3))) [some (Deed.count p r ps).d, some (nD k), some (.tup [nD p, nD r, .tup (ps.map nD)]), none] = .ok (nD ps.length) := by
        show blen (.tup (ps.map nD)) = _
        show Res.ok (D.int ((ps.map nD).length : Nat)) = _
        rw [List.length_map]
        rfl
      refine tf ?_
      rw [bin_eq, e1, bind_ok]
      have : ps.length = 1 ∨ ps.length = 2 ∨ ps.length = 3 ∨ ps.length = 4 := by omega
      rcases this with h | h | h | h <;> rw [h] <;> rfl
    rw [chk_pass (orF rfl (orF (nt c1) c3)), chk_pass (orF (nt c2) (orF rfl c4))]
    rfl
  | _ => cases hp
theorem plain_deed_ok {x : Deed} (hp : Pl x = true) {k : Nat} (hx : x.ok k) : m_law_plain_deed [x.d, nD k] = .ok (.bl true) := by
  obtain ⟨R, h1, h2⟩ := pd_mid hp hx
  obtain ⟨hn, _⟩ := nums_ok hx
  obtain ⟨o3, h3⟩ := pd_loop (X := x.d) (R := R) x.nums none hn
  unfold m_law_plain_deed
  rw [fn2]
  show done (seq (Py.ite (orT (notT (tst (un (oisi CS [.tup]) (var 0)))) (orT (tst (bin olt (un blen (var 0)) (cst (.int 2)))) (notT (tst (un (oisi CS [.str]) (bin oidx (var 0) (cst (.int 0)))))))) (ret (cst (.bl false))) skip)
    (seq (asg (gnm 2) (slc (var 0) (some (cst (.int 1))) none)) (seq pdM (seq (for_ (iseq (var 2)) (gnm 3) pdB) (ret (cst (.bl true)))))) [some x.d, some (nD k), none, none]) = _
  have c0 : (orT (notT (tst (un (oisi CS [.tup]) (var 0)))) (orT (tst (bin olt (un blen (var 0)) (cst (.int 2)))) (notT (tst (un (oisi CS [.str]) (bin oidx (var 0) (cst (.int 0)))))))) [some x.d, some (nD k), none, none] = .ok false := by
    cases x <;> first | (cases hp; done) | rfl
  have c1 : slc (var 0) (some (cst (.int 1))) none [some x.d, some (nD k), none, none] = .ok (.tup (match x.d with | .tup ds => ds.drop 1 | _ => [])) := by
    cases x <;> first | (cases hp; done) | rfl
  rw [chk_pass c0]
  refine (congrArg done (asg_pass c1)).trans ?_
  show done (seq pdM _ [some x.d, some (nD k), some _, none]) = _
  rw [seq_next h2, for_pass h1 h3]
  rfl
/-! ### what is counted -/
def isAdd (x : Deed) : Bool := x.name == "add"
def isCar (x : Deed) : Bool := x.marked && !x.isCount
theorem kds_len (xs : List Deed) (p : Bool × Nat → Bool) : ((kds xs).filter p).length = (xs.filter fun x => x.marked && p (x.isCount, x.top)).length := by
  unfold kds
  rw [List.filter_map, List.length_map, List.filter_filter]
  congr 1
  apply List.filter_congr
  intro x _
  simp [Bool.and_comm]
theorem car_len {xs ys : List Deed} (h : kds ys = kds xs) (hp : ∀ y ∈ ys, Pl y = true) : (ys.filter isAdd).length = (xs.filter isCar).length := by
  have e := kds_len xs fun q => !q.1
  have e2 := kds_len ys fun q => !q.1
  rw [h] at e2
  have e3 : (ys.filter isAdd) = ys.filter fun x => x.marked && !x.isCount := by
    apply List.filter_congr
    intro y hy
    have := hp y hy
    cases y <;> first | (cases this; done) | rfl
  rw [e3]
  exact e2.symm.trans e
theorem cnt_len {xs ys : List Deed} (h : kds ys = kds xs) : (ys.filter Deed.isCount).length = (xs.filter Deed.isCount).length := by
  have e := kds_len xs fun q => q.1
  have e2 := kds_len ys fun q => q.1
  rw [h] at e2
  have e3 : ∀ zs : List Deed, (zs.filter Deed.isCount) = zs.filter fun x => x.marked && x.isCount := fun zs => by
    apply List.filter_congr
    intro y hy
    cases y <;> rfl
  rw [e3, e3]
  exact e2.symm.trans e
theorem car_in (x : Deed) : oin (.str x.name) (.tup [.str "shift", .str "minus", .str "add", .str "sub"]) = .ok (.bl (isCar x)) := by cases x <;> rfl
theorem add_eq (x : Deed) : oeq (.str x.name) (.str "add") = .ok (.bl (isAdd x)) := by cases x <;> rfl
theorem len_l (xs : List Deed) : blen (.lst (xs.map Deed.d)) = .ok (nD xs.length) := by
  show Res.ok (D.int ((xs.map Deed.d).length : Nat)) = _
  rw [List.length_map]
  rfl
theorem len_t (xs : List Deed) : blen (.tup (xs.map Deed.d)) = .ok (nD xs.length) := by
  show Res.ok (D.int ((xs.map Deed.d).length : Nat)) = _
  rw [List.length_map]
  rfl
/-- [deed for deed in .. if a test of its name] -/
theorem fil_len {it : IM} {t : TM} {i : Nat} {e : Env} {xs : List Deed} {p : Deed → Bool} (hi : it e = .ok (xs.map Deed.d)) (hz : xs.length ≤ 5000) (hj : i < e.length) (ht : ∀ x : Deed, t ((wipe e [i]).set i (some x.d)) = .ok (p x)) :
    lcE it [i] (gnm i) t (var i) e = .ok (.lst ((xs.filter p).map Deed.d)) :=
  lc_fil (k := Deed.d) hi (Nat.le_trans hz (by decide)) (by simpa [wipe] using hj) fun x _ => ht x
theorem name_t {f : D → D → Res D} {c : D} {i : Nat} {e : Env} {x : Deed} {b : Bool} (he : e[i]? = some (some x.d)) (h : f (.str x.name) c = .ok (.bl b)) {mc : EM} (hc : mc e = .ok c) : tst (bin f (bin oidx (var i) (cst (.int 0))) mc) e = .ok b := by
  refine tt ?_
  rw [bin_eq, bin_eq, var_at he, bind_ok]
  show ((oidx x.d (.int 0)) >>= _) = _
  rw [deed_name, bind_ok, hc, bind_ok]
  exact h
theorem set_at {e : Env} {i : Nat} {d : D} (h : i < e.length) : ((wipe e [i]).set i (some d))[i]? = some (some d) := by
  rw [List.getElem?_set_self (by simpa [wipe] using h)]
abbrev crT (i : Nat) : TM := tst (bin oin (bin oidx (var i) (cst (.int 0))) (tupE (argC (cst (.str "shift")) (argC (cst (.str "minus")) (argC (cst (.str "add")) (argC (cst (.str "sub")) argN))))))
abbrev eqT (i : Nat) (s : String) : TM := tst (bin oeq (bin oidx (var i) (cst (.int 0))) (cst (.str s)))
theorem car_l {it : IM} {i : Nat} {e : Env} {xs : List Deed} (hi : it e = .ok (xs.map Deed.d)) (hz : xs.length ≤ 5000) (hj : i < e.length) : lcE it [i] (gnm i) (crT i) (var i) e = .ok (.lst ((xs.filter isCar).map Deed.d)) := fil_len hi hz hj fun x => name_t (set_at hj) (car_in x) rfl
theorem cnt_l {it : IM} {i : Nat} {e : Env} {xs : List Deed} (hi : it e = .ok (xs.map Deed.d)) (hz : xs.length ≤ 5000) (hj : i < e.length) : lcE it [i] (gnm i) (eqT i "count") (var i) e = .ok (.lst ((xs.filter Deed.isCount).map Deed.d)) := fil_len hi hz hj fun x => name_t (set_at hj) (count_first x) rfl
theorem add_l {it : IM} {i : Nat} {e : Env} {xs : List Deed} (hi : it e = .ok (xs.map Deed.d)) (hz : xs.length ≤ 5000) (hj : i < e.length) : lcE it [i] (gnm i) (eqT i "add") (var i) e = .ok (.lst ((xs.filter isAdd).map Deed.d)) := fil_len hi hz hj fun x => name_t (set_at hj) (add_eq x) rfl
theorem carry_count_ok {n out : Nat} {xs : List Deed} (hz : xs.length ≤ 5000) : m_carry_count [rowD n xs out] = .ok (nD (xs.filter isCar).length) := by
  have h : lcE (iseq (un (oattr ["Row"] "deeds") (var 0))) [1] (gnm 1) (tst (bin oin (bin oidx (var 1) (cst (.int 0))) (cst (.tup tup_CARRIES)))) (var 1) [some (rowD n xs out), none] = .ok (.lst ((xs.filter isCar).map Deed.d)) :=
    fil_len (i := 1) rfl hz (by simp) fun x => name_t (set_at (by simp)) (car_in x) rfl
  unfold m_carry_count
  rw [fn1]
  unfold b_carry_count ret
  rw [un_eq]
  show done ((lcE (iseq (un (oattr ["Row"] "deeds") (var 0))) [1] (gnm 1) (tst (bin oin (bin oidx (var 1) (cst (.int 0))) (cst (.tup tup_CARRIES)))) (var 1) [some (rowD n xs out), none] >>= blen) >>= _) = _
  rw [h, bind_ok, len_l]
  rfl
/-! ### the answer is plain -/
def plB : SM := (Py.ite (notT (tst (call m_law_plain_deed (argC (bin oidx (un (oattr ["Row"] "deeds") (var 0)) (var 3)) (argC (bin oadd (var 1) (var 3)) argN))))) (ret (cst (.bl false))) skip)
theorem plain_ok {n o : Nat} {xs ys : List Deed} {out : Nat} (h3 : n ≤ 3) (hz : xs.length ≤ 300) (P : PRow n xs out ys o) : m_law_plain [rowD n ys o, nD n, .lst (xs.map Deed.d)] = .ok (.bl true) := by
  have hy : ys.length ≤ 5000 := by have := P.len; omega
  have hloop : ∃ o3, forL (forB (gnm 3) plB) ((List.range ys.length).map nD) [some (rowD n ys o), some (nD n), some (.lst (xs.map Deed.d)), none, none, none, none] = .ok (.next [some (rowD n ys o), some (nD n), some (.lst (xs.map Deed.d)), o3, none, none, none]) := by
    have q := forL_inv (b := forB (gnm 3) plB) (xs := (List.range ys.length).map nD) (e := [some (rowD n ys o), some (nD n), some (.lst (xs.map Deed.d)), none, none, none, none])
      (fun k e => ∃ o3, e = [some (rowD n ys o), some (nD n), some (.lst (xs.map Deed.d)), o3, none, none, none]) 0 ⟨none, rfl⟩ fun i e hi hI => ?_
    · obtain ⟨e', h1, o3, rfl⟩ := q
      exact ⟨o3, h1⟩
    · obtain ⟨o3, rfl⟩ := hI
      have hi' : i < ys.length := by simpa using hi
      have hx : ((List.range ys.length).map nD)[i]'hi = nD i := by simp
      rw [hx]
      refine ⟨_, ?_, some (nD i), rfl⟩
      show plB [some (rowD n ys o), some (nD n), some (.lst (xs.map Deed.d)), some (nD i), none, none, none] = _
      unfold plB
      have hc : call m_law_plain_deed (argC (bin oidx (un (oattr ["Row"] "deeds") (var 0)) (var 3)) (argC (bin oadd (var 1) (var 3)) argN)) [some (rowD n ys o), some (nD n), some (.lst (xs.map Deed.d)), some (nD i), none, none, none] = .ok (.bl true) := by
        have e1 : bin oidx (un (oattr ["Row"] "deeds") (var 0)) (var 3) [some (rowD n ys o), some (nD n), some (.lst (xs.map Deed.d)), some (nD i), none, none, none] = .ok ys[i].d := by
          show oidx (.tup (ys.map Deed.d)) (nD i) = _
          exact oidx_t (by simp [hi'])
        have e2 : bin oadd (var 1) (var 3) [some (rowD n ys o), some (nD n), some (.lst (xs.map Deed.d)), some (nD i), none, none, none] = .ok (nD (n + i)) := nadd n i
        rw [call_eq, argC_eq, e1, bind_ok, argC_eq, e2]
        exact plain_deed_ok (P.plain _ (List.getElem_mem hi')) (P.row i hi')
      exact ite_f (nt hc)
  obtain ⟨o3, hl⟩ := hloop
  unfold m_law_plain
  rw [fn3]
  unfold b__law_plain
  have E : ∀ (a b c d : Option D), ([some (rowD n ys o), some (nD n), some (.lst (xs.map Deed.d)), a, b, c, d] : Env).length = 7 := fun _ _ _ _ => rfl
  have t1 : (orT (notT (tst (un (oisi CS [(.cls "Row")]) (var 0)))) (orT (notT (tst (call m_law_number (argC (un (oattr ["Row"] "inputs") (var 0)) (argC (cst (.int 4)) argN))))) (tst (bin Py.one (un (oattr ["Row"] "inputs") (var 0)) (var 1))))) [some (rowD n ys o), some (nD n), some (.lst (xs.map Deed.d)), none, none, none, none] = .ok false :=
    orF rfl (orF (nt (show call m_law_number _ _ = _ from number_t (a := n) (b := 4) (by omega))) (tf (show Py.one (nD n) (nD n) = _ from by rw [one_n]; simp)))
  have t2 : (orT (notT (tst (un (oisi CS [.tup]) (un (oattr ["Row"] "deeds") (var 0))))) (tst (bin ogt (un blen (un (oattr ["Row"] "deeds") (var 0))) (bin oadd (bin omul (cst (.int 7)) (un blen (var 2))) (cst (.int 3)))))) [some (rowD n ys o), some (nD n), some (.lst (xs.map Deed.d)), none, none, none, none] = .ok false := by
    refine orF rfl (tf ?_)
    show (blen (.tup (ys.map Deed.d)) >>= fun a => ((blen (.lst (xs.map Deed.d)) >>= fun b => omul (nD 7) b) >>= fun c => oadd c (nD 3)) >>= fun b => ogt a b) = _
    rw [len_t, bind_ok, len_l, bind_ok, nmul (by decide), bind_ok, nadd, bind_ok, ogt_n, decide_eq_false (by have := P.len; omega)]
  have t3 : (notT (tst (call m_law_number (argC (un (oattr ["Row"] "out") (var 0)) (argC (bin oadd (var 1) (un blen (un (oattr ["Row"] "deeds") (var 0)))) argN))))) [some (rowD n ys o), some (nD n), some (.lst (xs.map Deed.d)), o3, none, none, none] = .ok false := by
    refine nt ?_
    have e1 : un (oattr ["Row"] "out") (var 0) [some (rowD n ys o), some (nD n), some (.lst (xs.map Deed.d)), o3, none, none, none] = .ok (nD o) := rfl
    have e2 : bin oadd (var 1) (un blen (un (oattr ["Row"] "deeds") (var 0))) [some (rowD n ys o), some (nD n), some (.lst (xs.map Deed.d)), o3, none, none, none] = .ok (nD (n + ys.length)) := by
      show (blen (.tup (ys.map Deed.d)) >>= fun b => oadd (nD n) b) = _
      rw [len_t, bind_ok, nadd]
    rw [call_eq, argC_eq, e1, bind_ok, argC_eq, e2]
    exact number_t P.lt
  have a4 := car_l (it := iseq (var 2)) (i := 6) (e := [some (rowD n ys o), some (nD n), some (.lst (xs.map Deed.d)), o3, none, none, none]) (xs := xs) rfl (by omega) (by simp)
  have a5 := cnt_l (it := iseq (var 2)) (i := 6) (e := [some (rowD n ys o), some (nD n), some (.lst (xs.map Deed.d)), o3, some (.lst ((xs.filter isCar).map Deed.d)), none, none]) (xs := xs) rfl (by omega) (by simp)
  have a6 := add_l (it := iseq (un (oattr ["Row"] "deeds") (var 0))) (i := 6) (e := [some (rowD n ys o), some (nD n), some (.lst (xs.map Deed.d)), o3, some (.lst ((xs.filter isCar).map Deed.d)), some (.lst ((xs.filter Deed.isCount).map Deed.d)), none]) (xs := ys) rfl hy (by simp)
  have a7 := cnt_l (it := iseq (un (oattr ["Row"] "deeds") (var 0))) (i := 6) (e := [some (rowD n ys o), some (nD n), some (.lst (xs.map Deed.d)), o3, some (.lst ((xs.filter isCar).map Deed.d)), some (.lst ((xs.filter Deed.isCount).map Deed.d)), none]) (xs := ys) rfl hy (by simp)
  have hr : irng1 (un blen (un (oattr ["Row"] "deeds") (var 0))) [some (rowD n ys o), some (nD n), some (.lst (xs.map Deed.d)), none, none, none, none] = .ok ((List.range ys.length).map nD) := by
    refine irng1_nat (n := ys.length) ?_ (Nat.lt_of_le_of_lt hy (by decide))
    exact len_t ys
  refine (congrArg done (chk_pass t1)).trans ?_
  refine (congrArg done (chk_pass t2)).trans ?_
  show done (seq (for_ (irng1 (un blen (un (oattr ["Row"] "deeds") (var 0)))) (gnm 3) plB) _ _) = _
  rw [for_pass hr hl]
  refine (congrArg done (chk_pass t3)).trans ?_
  refine (congrArg done (asg_pass a4)).trans ?_
  refine (congrArg done (asg_pass a5)).trans ?_
  have t8 : (tst (bin Py.one (un blen (lcE (iseq (un (oattr ["Row"] "deeds") (var 0))) [6] (gnm 6) (eqT 6 "add") (var 6))) (un blen (var 4)))) [some (rowD n ys o), some (nD n), some (.lst (xs.map Deed.d)), o3, some (.lst ((xs.filter isCar).map Deed.d)), some (.lst ((xs.filter Deed.isCount).map Deed.d)), none] = .ok false := by
    refine tf ?_
    rw [bin_eq, un_eq, a6, bind_ok, len_l, bind_ok, un_eq]
    show (blen (.lst ((xs.filter isCar).map Deed.d)) >>= _) = _
    rw [len_l, bind_ok, one_n, car_len P.kd P.plain]
    simp
  refine (congrArg done (chk_pass t8)).trans ?_
  have t9 : bin oeq (un blen (lcE (iseq (un (oattr ["Row"] "deeds") (var 0))) [6] (gnm 6) (eqT 6 "count") (var 6))) (un blen (var 5)) [some (rowD n ys o), some (nD n), some (.lst (xs.map Deed.d)), o3, some (.lst ((xs.filter isCar).map Deed.d)), some (.lst ((xs.filter Deed.isCount).map Deed.d)), none] = .ok (.bl true) := by
    rw [bin_eq, un_eq, a7, bind_ok, len_l, bind_ok, un_eq]
    show (blen (.lst ((xs.filter Deed.isCount).map Deed.d)) >>= _) = _
    rw [len_l, bind_ok, nat_eq, cnt_len P.kd]
    simp
  show done (ret _ _) = _
  unfold ret
  show done ((bin oeq (un blen (lcE (iseq (un (oattr ["Row"] "deeds") (var 0))) [6] (gnm 6) (eqT 6 "count") (var 6))) (un blen (var 5)) [some (rowD n ys o), some (nD n), some (.lst (xs.map Deed.d)), o3, some (.lst ((xs.filter isCar).map Deed.d)), some (.lst ((xs.filter Deed.isCount).map Deed.d)), none]) >>= _) = _
  rw [t9]
  rfl
end Py.U
namespace Py.U
open PySem
/-! ### both rows side by side -/
theorem fn5 {n : Nat} {body : SM} {a b c d e : D} : fn 5 n body [a, b, c, d, e] = done (body ([some a, some b, some c, some d, some e] ++ List.replicate (n - 5) none)) := rfl
def zer (xs : List Deed) : List Nat := List.replicate (tops xs).length 0
theorem zer_fit {n : Nat} {xs : List Deed} (hr : Row n xs) : Fit (zer xs) (tops xs) := by
  have key : ∀ ts : List Nat, (∀ t ∈ ts, 0 < t) → Fit (List.replicate ts.length 0) ts := by
    intro ts
    induction ts with
    | nil => intro _; trivial
    | cons t ts ih =>
      intro h
      exact ⟨h t List.mem_cons_self, ih fun u hu => h u (List.mem_cons_of_mem _ hu)⟩
  exact key _ fun t ht => (tops_le hr t ht).1
theorem first_ok {n : Nat} {xs : List Deed} (hr : Row n xs) (hz : xs.length ≤ 5000) {DL : D} (hDL : DL = .lst (xs.map Deed.d) ∨ DL = .tup (xs.map Deed.d)) : m_law_first [DL] = .ok (rD (zer xs)) := by
  have key : ∀ ys : List Deed, (∀ y ∈ ys, ∃ k, y.ok k) → compL (compF [1] (gnm 1) (tst (bin ogt (call m_law_weight (argC (var 1) argN)) (cst (.int 1)))) (cst (.int 0)) [some DL, none]) (ys.map Deed.d) = .ok ((List.replicate (tops ys).length 0).map nD) := by
    intro ys
    induction ys with
    | nil => intro _; rfl
    | cons y ys ih =>
      intro hy
      obtain ⟨k, hk⟩ := hy y List.mem_cons_self
      have f1 : compF [1] (gnm 1) (tst (bin ogt (call m_law_weight (argC (var 1) argN)) (cst (.int 1)))) (cst (.int 0)) [some DL, none] y.d = .ok (if y.marked then some (.int 0) else none) := by
        unfold compF
        rw [gnm_eq]
        show (lift (some _) >>= _) = _
        rw [lift_some, bind_ok, tst_eq, bin_eq, call_eq, argC_eq, var_eq (d := y.d) (by rw [List.getElem?_set_self (by simp [wipe])]), bind_ok]
        show (((m_law_weight [y.d]) >>= fun x => ogt x (.int 1)) >>= truthy >>= _) = _
        rw [weight_ok, bind_ok]
        have h3 : ogt (nD y.wt) (.int 1) = .ok (.bl y.marked) := by
          rw [← wt_gt hk]
          exact ogt_n y.wt 1
        rw [h3, bind_ok, truthy_b, bind_ok]
        cases y.marked <;> rfl
      rw [List.map_cons]
      unfold compL
      rw [f1, bind_ok, ih fun z hz => hy z (List.mem_cons_of_mem _ hz), bind_ok]
      unfold tops
      rw [List.filter_cons]
      cases hm : y.marked
      · rfl
      · rfl
  have q : lcE (iseq (var 0)) [1] (gnm 1) (tst (bin ogt (call m_law_weight (argC (var 1) argN)) (cst (.int 1)))) (cst (.int 0)) [some DL, none] = .ok (.lst ((zer xs).map nD)) := by
    have hi : iseq (var 0) [some DL, none] = .ok (xs.map Deed.d) := by rcases hDL with rfl | rfl <;> rfl
    unfold lcE
    rw [hi, bind_ok, key xs fun y hy => by
      obtain ⟨k, hk, rfl⟩ := List.mem_iff_getElem.mp hy
      exact ⟨_, hr k hk⟩]
    rw [noexc_ok, bind_ok, List.length_map]
    exact chk_ok (Nat.le_trans hz (by decide))
  unfold m_law_first
  rw [fn1]
  show done (ret (un btuple (lcE (iseq (var 0)) [1] (gnm 1) (tst (bin ogt (call m_law_weight (argC (var 1) argN)) (cst (.int 1)))) (cst (.int 0)))) [some DL, none]) = _
  rw [ret_eq, un_eq, q]
  rfl
abbrev pairD (m : List Nat) : D := .tup [rD m, rD m]
abbrev rowX (xs : List Deed) (out : Nat) : D := .tup [.lst (xs.map Deed.d), nD out]
abbrev rowY (ys : List Deed) (o : Nat) : D := .tup [.tup (ys.map Deed.d), nD o]
section
variable {n out o : Nat} {xs ys : List Deed}
theorem nx_fit (hr : Row n xs) (hz : n + xs.length ≤ 5000) {m : List Nat} (h : Fit m (tops xs)) (l : Nat) : Fit (nx1 n xs m l) (tops xs) := by
  have := (runD_at l h hr hz).fit
  rwa [List.take_length] at this
theorem both_ok (h3 : n ≤ 3) (hr : Row n xs) (hz : xs.length ≤ 300) (ho : out < n + xs.length) (P : PRow n xs out ys o) {m : List Nat} (hm : Fit m (tops xs)) (l : Nat) :
    m_law_both [nD n, rowX xs out, rowY ys o, pairD m, nD l] = .ok (pairD (nx1 n xs m l)) := by
  have ht : tops ys = tops xs := by rw [kds_tops, kds_tops, P.kd]
  have hy : n + ys.length ≤ 5000 := by have := P.len; omega
  have s1 := law_step_ok l hm hr (by omega) h3 (DL := .lst (xs.map Deed.d)) (.inl rfl)
  have s2 := law_step_ok l (ht ▸ hm : Fit m (tops ys)) P.row hy h3 (DL := .tup (ys.map Deed.d)) (.inr rfl)
  obtain ⟨e1, e2⟩ := P.sem m l hm
  have A1 := runD_at l hm hr (show n + xs.length ≤ 5000 by omega)
  have A2 := runD_at l (ht ▸ hm : Fit m (tops ys)) P.row hy
  have b1 : oidx (.lst ((runD m (lb n l) xs).1.map nD)) (nD out) = .ok (nD (at0 (runD m (lb n l) xs).1 out)) := bits_at (by rw [A1.len]; exact ho)
  have b2 : oidx (.lst ((runD m (lb n l) ys).1.map nD)) (nD o) = .ok (nD (at0 (runD m (lb n l) xs).1 out)) := by
    rw [← e1]
    exact bits_at (by rw [A2.len]; exact P.lt)
  have e3 : nx1 n ys m l = nx1 n xs m l := e2
  rw [e3] at s2
  have b3 := one_n (at0 (runD m (lb n l) xs).1 out) (at0 (runD m (lb n l) xs).1 out)
  rw [decide_eq_true rfl] at b3
  unfold m_law_both
  rw [fn5]
  have c1 : call m_law_step (argC (var 0) (argC (bin oidx (var 1) (cst (.int 0))) (argC (bin oidx (var 3) (cst (.int 0))) (argC (var 4) argN)))) [some (nD n), some (rowX xs out), some (rowY ys o), some (pairD m), some (nD l), none, none, none, none] = .ok (.tup [.lst ((runD m (lb n l) xs).1.map nD), rD (nx1 n xs m l)]) := s1
  have c2 : call m_law_step (argC (var 0) (argC (bin oidx (var 2) (cst (.int 0))) (argC (bin oidx (var 3) (cst (.int 1))) (argC (var 4) argN)))) [some (nD n), some (rowX xs out), some (rowY ys o), some (pairD m), some (nD l), some (.lst ((runD m (lb n l) xs).1.map nD)), some (rD (nx1 n xs m l)), none, none] = .ok (.tup [.lst ((runD m (lb n l) ys).1.map nD), rD (nx1 n xs m l)]) := s2
  show done (b__law_both [some (nD n), some (rowX xs out), some (rowY ys o), some (pairD m), some (nD l), none, none, none, none]) = .ok (.tup [rD (nx1 n xs m l), rD (nx1 n xs m l)])
  generalize (runD m (lb n l) xs).1.map nD = B1 at *
  generalize (runD m (lb n l) ys).1.map nD = B2 at *
  generalize nD (at0 (runD m (lb n l) xs).1 out) = V at *
  generalize rD (nx1 n xs m l) = M at *
  unfold b__law_both
  show done (seq _ _ [some (nD n), some (rowX xs out), some (rowY ys o), some (pairD m), some (nD l), none, none, none, none]) = _
  rw [seq_next (e' := [some (nD n), some (rowX xs out), some (rowY ys o), some (pairD m), some (nD l), some (.lst B1), some M, none, none]) (by rw [asg_eq, c1]; rfl)]
  rw [seq_next (e' := [some (nD n), some (rowX xs out), some (rowY ys o), some (pairD m), some (nD l), some (.lst B1), some M, some (.lst B2), some M]) (by rw [asg_eq, c2]; rfl)]
  have t1 : tst (bin Py.one (bin oidx (var 5) (bin oidx (var 1) (cst (.int 1)))) (bin oidx (var 7) (bin oidx (var 2) (cst (.int 1))))) [some (nD n), some (rowX xs out), some (rowY ys o), some (pairD m), some (nD l), some (.lst B1), some M, some (.lst B2), some M] = .ok false := by
    refine tf ?_
    show (oidx (.lst B1) (nD out) >>= fun a => oidx (.lst B2) (nD o) >>= fun b => Py.one a b) = _
    rw [b1, bind_ok, b2, bind_ok]
    exact b3
  refine (congrArg done (chk_pass t1)).trans ?_
  rfl
/-! ### the law's own walk -/
def slB : SM := (seq (asg (gnm 11) (call m_law_both (argC (var 1) (argC (var 2) (argC (var 3) (argC (bin oidx (var 7) (var 9)) (argC (var 10) argN)))))))
  (seq (Py.ite (tst (un oisN (var 11))) (ret (cst (.bl false))) skip)
  (Py.ite (tst (bin onotin (var 11) (var 8))) (seq (setL 8 (var 11) (cst (.bl true)))
  (app 7 (var 11))) skip)))
def slK : SM := (Py.ite (tst (bin olt (var 9) (un blen (var 7)))) (for_ (irng1 (bin oshl (cst (.int 1)) (var 1))) (gnm 10) slB) skip)
abbrev slE (n : Nat) (X Y S R F : D) (ps : List (List Nat)) (kvs : List (D × D)) (o9 o10 o11 o12 : Option D) : Env := [some poolD, some (nD n), some X, some Y, some S, some R, some F, some (.lst (ps.map pairD)), some (.dic true kvs), o9, o10, o11, o12]
theorem key_pair (m : List Nat) : keyOk true (pairD m) = true := by
  show hk 8 (.tup [rD m, rD m]) = true
  have : hk 7 (rD m) = true := hk_nums m 6
  simp only [hk, List.all_cons, List.all_nil, this, Bool.and_self]
theorem notin_pair (m : List Nat) (kvs : List (D × D)) : onotin (pairD m) (.dic true kvs) = .ok (.bl (!(find (pairD m) kvs).isSome)) := by
  unfold onotin
  simp only [key_pair, if_true]
theorem sl_step (h3 : n ≤ 3) (hr : Row n xs) (hz : xs.length ≤ 300) (ho : out < n + xs.length) (P : PRow n xs out ys o) {S R F : D} {ps : List (List Nat)} {kvs : List (D × D)} {k l c : Nat} {m : List Nat} (hk : ps[k]? = some m) (hm : Fit m (tops xs)) (hp : ps.length ≤ c) (hkv : kvs.length ≤ c) (hc : c ≤ 10000) (o10 o11 o12 : Option D) :
    ∃ ps' kvs' o11', slB (slE n (rowX xs out) (rowY ys o) S R F ps kvs (some (nD k)) (some (nD l)) o11 o12) = .ok (.next (slE n (rowX xs out) (rowY ys o) S R F ps' kvs' (some (nD k)) (some (nD l)) o11' o12)) ∧ (ps' = ps ∨ ps' = ps ++ [nx1 n xs m l]) ∧ kvs'.length ≤ c + 1 := by
  have hb := both_ok h3 hr hz ho P hm l
  have c1 : call m_law_both (argC (var 1) (argC (var 2) (argC (var 3) (argC (bin oidx (var 7) (var 9)) (argC (var 10) argN))))) (slE n (rowX xs out) (rowY ys o) S R F ps kvs (some (nD k)) (some (nD l)) o11 o12) = .ok (pairD (nx1 n xs m l)) := by
    have e1 : oidx (.lst (ps.map pairD)) (nD k) = .ok (pairD m) := oidx_l (by simp [hk])
    rw [call_eq, argC_eq]
    show ((Res.ok (nD n) >>= fun x => argC (var 2) (argC (var 3) (argC (bin oidx (var 7) (var 9)) (argC (var 10) argN))) _ >>= fun xs => .ok (x :: xs)) >>= m_law_both) = _
    have e2 : argC (var 2) (argC (var 3) (argC (bin oidx (var 7) (var 9)) (argC (var 10) argN))) (slE n (rowX xs out) (rowY ys o) S R F ps kvs (some (nD k)) (some (nD l)) o11 o12) = .ok [rowX xs out, rowY ys o, pairD m, nD l] := by
      show (Res.ok (rowX xs out) >>= fun x => (Res.ok (rowY ys o) >>= fun x => ((oidx (.lst (ps.map pairD)) (nD k)) >>= fun x => (Res.ok [nD l]) >>= fun xs => .ok (x :: xs)) >>= fun xs => .ok (x :: xs)) >>= fun xs => .ok (x :: xs)) = _
      rw [e1]
      rfl
    rw [e2]
    exact hb
  unfold slB
  rw [asg_pass c1]
  show ∃ ps' kvs' o11', seq (Py.ite (tst (un oisN (var 11))) (ret (cst (.bl false))) skip) (Py.ite (tst (bin onotin (var 11) (var 8))) (seq (setL 8 (var 11) (cst (.bl true))) (app 7 (var 11))) skip) (slE n (rowX xs out) (rowY ys o) S R F ps kvs (some (nD k)) (some (nD l)) (some (pairD (nx1 n xs m l))) o12) = _ ∧ _
  rw [chk_pass (show tst (un oisN (var 11)) (slE n (rowX xs out) (rowY ys o) S R F ps kvs (some (nD k)) (some (nD l)) (some (pairD (nx1 n xs m l))) o12) = .ok false from rfl)]
  have t1 : tst (bin onotin (var 11) (var 8)) (slE n (rowX xs out) (rowY ys o) S R F ps kvs (some (nD k)) (some (nD l)) (some (pairD (nx1 n xs m l))) o12) = .ok (!(find (pairD (nx1 n xs m l)) kvs).isSome) := by
    show onotin (pairD (nx1 n xs m l)) (.dic true kvs) >>= truthy = _
    rw [notin_pair]
    rfl
  cases hf : (find (pairD (nx1 n xs m l)) kvs).isSome with
  | true =>
    rw [hf] at t1
    exact ⟨ps, kvs, _, ite_f t1, .inl rfl, by omega⟩
  | false =>
    rw [hf] at t1
    have hs : setL 8 (var 11) (cst (.bl true)) (slE n (rowX xs out) (rowY ys o) S R F ps kvs (some (nD k)) (some (nD l)) (some (pairD (nx1 n xs m l))) o12) = .ok (.next (slE n (rowX xs out) (rowY ys o) S R F ps (putD (pairD (nx1 n xs m l)) (.bl true) kvs) (some (nD k)) (some (nD l)) (some (pairD (nx1 n xs m l))) o12)) := by
      unfold setL
      rw [var_at (d := .dic true kvs) rfl, bind_ok]
      show (if keyOk true (pairD (nx1 n xs m l)) && decide (kvs.length < SZ) then _ else _) = _
      rw [if_pos (by rw [key_pair, decide_eq_true (Nat.lt_of_le_of_lt (show kvs.length ≤ 10000 by omega) (by decide))]; rfl)]
      rfl
    have ha : app 7 (var 11) (slE n (rowX xs out) (rowY ys o) S R F ps (putD (pairD (nx1 n xs m l)) (.bl true) kvs) (some (nD k)) (some (nD l)) (some (pairD (nx1 n xs m l))) o12) = .ok (.next (slE n (rowX xs out) (rowY ys o) S R F (ps ++ [nx1 n xs m l]) (putD (pairD (nx1 n xs m l)) (.bl true) kvs) (some (nD k)) (some (nD l)) (some (pairD (nx1 n xs m l))) o12)) := by
      rw [app_eq, var_eq (d := .lst (ps.map pairD)) rfl, bind_ok]
      show (if (ps.map pairD).length < SZ then _ else _) = _
      rw [if_pos (by rw [List.length_map]; exact Nat.lt_of_le_of_lt (show ps.length ≤ 10000 by omega) (by decide))]
      show Res.ok (Fl.next _) = _
      simp only [slE, List.map_append, List.map_cons, List.map_nil]
      rfl
    refine ⟨ps ++ [nx1 n xs m l], putD (pairD (nx1 n xs m l)) (.bl true) kvs, some (pairD (nx1 n xs m l)), ?_, .inr rfl, ?_⟩
    · rw [ite_t t1, seq_next hs]
      exact ha
    · have := put_len' (pairD (nx1 n xs m l)) (.bl true) kvs
      omega
theorem sl_in (h3 : n ≤ 3) (hr : Row n xs) (hz : xs.length ≤ 300) (ho : out < n + xs.length) (P : PRow n xs out ys o) {S R F : D} {k : Nat} {m : List Nat} (hm : Fit m (tops xs)) : ∀ (ls : List Nat) (ps : List (List Nat)) (kvs : List (D × D)) (c : Nat) (o10 o11 o12 : Option D), ps[k]? = some m → (∀ p ∈ ps, Fit p (tops xs)) → ps.length ≤ c → kvs.length ≤ c → c + ls.length ≤ 10000 →
    ∃ (ps' : List (List Nat)) (kvs' : List (D × D)) (o10' o11' : Option D), forL (forB (gnm 10) slB) (ls.map nD) (slE n (rowX xs out) (rowY ys o) S R F ps kvs (some (nD k)) o10 o11 o12) = .ok (.next (slE n (rowX xs out) (rowY ys o) S R F ps' kvs' (some (nD k)) o10' o11' o12)) ∧ (∀ p ∈ ps', Fit p (tops xs)) ∧ ps'.length ≤ c + ls.length ∧ kvs'.length ≤ c + ls.length ∧ ∀ (j : Nat) (p : List Nat), ps[j]? = some p → ps'[j]? = some p
  | [], ps, kvs, c, o10, o11, o12, hk, hf, hp, hkv, hc => ⟨ps, kvs, o10, o11, rfl, hf, hp, hkv, fun _ _ h => h⟩
  | l :: ls, ps, kvs, c, o10, o11, o12, hk, hf, hp, hkv, hc => by
    have hc' : c + (ls.length + 1) ≤ 10000 := hc
    obtain ⟨ps1, kvs1, o11', h1, h2, h4⟩ := sl_step h3 hr hz ho P (S := S) (R := R) (F := F) (l := l) hk hm hp hkv (by omega) o10 o11 o12
    have keep : ∀ (j : Nat) (p : List Nat), ps[j]? = some p → ps1[j]? = some p := fun j p hj => by
      rcases h2 with rfl | rfl
      · exact hj
      · rw [List.getElem?_append_left (List.getElem?_eq_some_iff.mp hj).1]
        exact hj
    have hf1 : ∀ p ∈ ps1, Fit p (tops xs) := fun p hpm => by
      rcases h2 with rfl | rfl
      · exact hf p hpm
      · rcases List.mem_append.mp hpm with z | z
        · exact hf p z
        · rw [List.mem_singleton.mp z]
          exact nx_fit hr (by omega) hm l
    have hp1 : ps1.length ≤ c + 1 := by
      rcases h2 with rfl | rfl
      · omega
      · simp; omega
    obtain ⟨ps2, kvs2, o10', o11'', q1, q2, q3, q4, q5⟩ := sl_in h3 hr hz ho P hm ls ps1 kvs1 (c + 1) (some (nD l)) o11' o12 (keep _ _ hk) hf1 hp1 h4 (by omega)
    refine ⟨ps2, kvs2, o10', o11'', ?_, q2, by simp; omega, by simp; omega, fun j p hj => q5 j p (keep j p hj)⟩
    rw [List.map_cons]
    unfold forL
    have hb : forB (gnm 10) slB (nD l) (slE n (rowX xs out) (rowY ys o) S R F ps kvs (some (nD k)) o10 o11 o12) = .ok (.next (slE n (rowX xs out) (rowY ys o) S R F ps1 kvs1 (some (nD k)) (some (nD l)) o11' o12)) := h1
    rw [hb, bind_ok]
    exact q1
theorem shl1 {n : Nat} (h3 : n ≤ 3) : oshl (.int 1) (nD n) = .ok (nD (2 ^ n)) := shl_nD (by omega)
theorem sl_out (h1 : 1 ≤ n) (h3 : n ≤ 3) (hr : Row n xs) (hz : xs.length ≤ 300) (ho : out < n + xs.length) (P : PRow n xs out ys o) {S R F : D} {room : Nat} (hroom : room ≤ 300) (o9 o10 o11 o12 : Option D) :
    ∃ e', forL (forB (gnm 9) slK) ((List.range room).map nD) (slE n (rowX xs out) (rowY ys o) S R F [zer xs] [(pairD (zer xs), .bl true)] o9 o10 o11 o12) = .ok (.next e') ∧
      ∃ ps kvs o9 o10 o11, e' = slE n (rowX xs out) (rowY ys o) S R F ps kvs o9 o10 o11 o12 ∧ ps.length ≤ 1 + 8 * room := by
  have h8 : 2 ^ n ≤ 8 := Nat.pow_le_pow_right (n := 2) (by decide) h3
  have q := forL_inv (b := forB (gnm 9) slK) (xs := (List.range room).map nD) (e := slE n (rowX xs out) (rowY ys o) S R F [zer xs] [(pairD (zer xs), .bl true)] o9 o10 o11 o12)
    (fun k e => ∃ ps kvs o9 o10 o11, e = slE n (rowX xs out) (rowY ys o) S R F ps kvs o9 o10 o11 o12 ∧ (∀ p ∈ ps, Fit p (tops xs)) ∧ ps.length ≤ 1 + 8 * k ∧ kvs.length ≤ 1 + 8 * k) 0 ⟨_, _, _, _, _, rfl, fun p hp => by rw [List.mem_singleton.mp hp]; exact zer_fit hr, by simp, by simp⟩ fun i e hi hI => ?_
  · obtain ⟨e', q1, ps, kvs, o9, o10, o11, rfl, q2, q3, q4⟩ := q
    rw [List.length_map, List.length_range, Nat.zero_add] at q3
    exact ⟨_, q1, ps, kvs, o9, o10, o11, rfl, q3⟩
  · obtain ⟨ps, kvs, o9, o10, o11, rfl, h2, h4, h5⟩ := hI
    have hi' : i < room := by simpa using hi
    rw [Nat.zero_add] at h4 h5 ⊢
    have hx : ((List.range room).map nD)[i]'hi = nD i := by simp
    rw [hx]
    show ∃ e', slK (slE n (rowX xs out) (rowY ys o) S R F ps kvs (some (nD i)) o10 o11 o12) = _ ∧ _
    have t1 : tst (bin olt (var 9) (un blen (var 7))) (slE n (rowX xs out) (rowY ys o) S R F ps kvs (some (nD i)) o10 o11 o12) = .ok (decide (i < ps.length)) := by
      refine tt ?_
      show (olt (nD i) (.int ((ps.map pairD).length : Nat))) = _
      rw [List.length_map]
      exact olt_n i ps.length
    unfold slK
    by_cases hlt : i < ps.length
    · rw [decide_eq_true hlt] at t1
      rw [ite_t t1]
      obtain ⟨ps', kvs', o10', o11', q1, q2, q3, q4, _⟩ := sl_in h3 hr hz ho P (S := S) (R := R) (F := F) (h2 _ (List.getElem_mem hlt)) (List.range (2 ^ n)) ps kvs (1 + 8 * i) o10 o11 o12 (List.getElem?_eq_getElem hlt) h2 h4 h5 (by rw [List.length_range]; omega)
      rw [List.length_range] at q3 q4
      refine ⟨_, ?_, ps', kvs', some (nD i), o10', o11', rfl, q2, by omega, by omega⟩
      have hrg : irng1 (bin oshl (cst (.int 1)) (var 1)) (slE n (rowX xs out) (rowY ys o) S R F ps kvs (some (nD i)) o10 o11 o12) = .ok ((List.range (2 ^ n)).map nD) := irng_n (n := 2 ^ n) (shl1 h3) (by omega)
      rw [for_eq, hrg, bind_ok]
      exact q1
    · rw [decide_eq_false hlt] at t1
      exact ⟨_, ite_f t1, ps, kvs, some (nD i), o10, o11, rfl, h2, by omega, by omega⟩
end
end Py.U
namespace Py.U
open PySem
section
variable {n out o : Nat} {xs ys : List Deed}
def swB : SM := (seq (asg (gnm 11) (call m_law_both (argC (var 1) (argC (var 2) (argC (var 3) (argC (var 11) (argC (call m_law_pick (argC (var 0) (argC (bin oshl (cst (.int 1)) (var 1)) argN))) argN)))))))
  (Py.ite (tst (un oisN (var 11))) (ret (cst (.bl false))) skip))
def swT : SM := (seq (asg (gnm 11) (var 6)) (for_ (irng1 (cst (.int 40))) (gnm 9) swB))
theorem sw_step (h3 : n ≤ 3) (hr : Row n xs) (hz : xs.length ≤ 300) (ho : out < n + xs.length) (P : PRow n xs out ys o) {S R F : D} {ps : List (List Nat)} {kvs : List (D × D)} {m : List Nat} (hm : Fit m (tops xs)) (o9 o10 o12 : Option D) :
    Always (NX fun e => ∃ m', Fit m' (tops xs) ∧ e = slE n (rowX xs out) (rowY ys o) S R F ps kvs o9 o10 (some (pairD m')) o12) (swB (slE n (rowX xs out) (rowY ys o) S R F ps kvs o9 o10 (some (pairD m)) o12)) := by
  unfold swB
  refine asg_a (Q := fun d => ∃ m', Fit m' (tops xs) ∧ d = pairD m') ?_ ?_
  · rw [call_eq]
    refine Always.bind (Q := fun ds => ∃ l : Nat, ds = [nD n, rowX xs out, rowY ys o, pairD m, nD l]) ?_ ?_
    · rw [argC_eq, var_eq (d := nD n) rfl, bind_ok, argC_eq, var_eq (d := rowX xs out) rfl, bind_ok, argC_eq, var_eq (d := rowY ys o) rfl, bind_ok, argC_eq, var_eq (d := pairD m) rfl, bind_ok, argC_eq]
      have hp : Always (fun d => ∃ l : Nat, d = nD l) (call m_law_pick (argC (var 0) (argC (bin oshl (cst (.int 1)) (var 1)) argN)) (slE n (rowX xs out) (rowY ys o) S R F ps kvs o9 o10 (some (pairD m)) o12)) :=
        pickc (2 ^ n) rfl (d := nD (2 ^ n)) (shl1 h3) rfl (Nat.two_pow_pos n) (Nat.lt_of_le_of_lt (Nat.pow_le_pow_right (n := 2) (by decide) h3) (by decide)) fun i hi => ⟨i, rfl⟩
      refine Always.bind (Q := fun ds => ∃ l : Nat, ds = [rowX xs out, rowY ys o, pairD m, nD l]) (Always.bind (Q := fun ds => ∃ l : Nat, ds = [rowY ys o, pairD m, nD l]) (Always.bind (Q := fun ds => ∃ l : Nat, ds = [pairD m, nD l]) (Always.bind (Q := fun ds => ∃ l : Nat, ds = [nD l]) (hp.bind ?_) ?_) ?_) ?_) ?_
      · rintro _ ⟨l, rfl⟩
        exact ⟨l, rfl⟩
      · rintro _ ⟨l, rfl⟩
        exact ⟨l, rfl⟩
      · rintro _ ⟨l, rfl⟩
        exact ⟨l, rfl⟩
      · rintro _ ⟨l, rfl⟩
        exact ⟨l, rfl⟩
      · rintro _ ⟨l, rfl⟩
        exact ⟨l, rfl⟩
    · rintro _ ⟨l, rfl⟩
      rw [both_ok h3 hr hz ho P hm l]
      exact ⟨_, nx_fit hr (by omega) hm l, rfl⟩
  · rintro _ ⟨m', hm', rfl⟩
    exact ite_a (c := false) rfl (fun h => nomatch h) fun _ => ⟨_, rfl, m', hm', rfl⟩
theorem sw_turn (h3 : n ≤ 3) (hr : Row n xs) (hz : xs.length ≤ 300) (ho : out < n + xs.length) (P : PRow n xs out ys o) {S R : D} {ps : List (List Nat)} {kvs : List (D × D)} (o9 o10 o11 o12 : Option D) :
    Always (NX fun e => ∃ o9 o11, e = slE n (rowX xs out) (rowY ys o) S R (pairD (zer xs)) ps kvs o9 o10 o11 o12) (swT (slE n (rowX xs out) (rowY ys o) S R (pairD (zer xs)) ps kvs o9 o10 o11 o12)) := by
  unfold swT
  refine asg_d (d := pairD (zer xs)) rfl ?_
  show Always _ (for_ (irng1 (cst (.int 40))) (gnm 9) swB (slE n (rowX xs out) (rowY ys o) S R (pairD (zer xs)) ps kvs o9 o10 (some (pairD (zer xs))) o12))
  have hrg : irng1 (cst (.int 40)) (slE n (rowX xs out) (rowY ys o) S R (pairD (zer xs)) ps kvs o9 o10 (some (pairD (zer xs))) o12) = .ok ((List.range 40).map nD) := irng_n (n := 40) rfl (by decide)
  rw [for_eq, hrg, bind_ok]
  refine (forR_a (fun _ e => ∃ o9 m, Fit m (tops xs) ∧ e = slE n (rowX xs out) (rowY ys o) S R (pairD (zer xs)) ps kvs o9 o10 (some (pairD m)) o12) ⟨o9, zer xs, zer_fit hr, rfl⟩ ?_).mono ?_
  · rintro i _ hi ⟨o9, m, hm, rfl⟩
    refine (sw_step h3 hr hz ho P hm (some (nD i)) o10 o12).mono ?_
    rintro _ ⟨e, rfl, m', hm', rfl⟩
    exact ⟨_, rfl, some (nD i), m', hm', rfl⟩
  · rintro _ ⟨e, rfl, o9, m, hm, rfl⟩
    exact ⟨_, rfl, o9, _, rfl⟩
theorem max_n (a b : Nat) : bmax2 (nD a) (nD b) = .ok (nD (if a < b then b else a)) := by
  unfold nD bmax2
  by_cases h : a < b
  · simp [h]
  · simp [h]
theorem min_n (a b : Nat) : bmin2 (nD a) (nD b) = .ok (nD (if b < a then b else a)) := by
  unfold nD bmin2
  by_cases h : b < a
  · simp [h]
  · simp [h]
theorem shl_big {a n : Nat} (ha : a ≤ 10000) (h3 : n ≤ 3) : oshl (nD a) (nD n) = .ok (nD (a * 2 ^ n)) := by
  unfold nD
  have hb : Builtin.Int.intBits (a : Int) ≤ 14 := PySem.intBits_le_iff.mpr (by simp; omega)
  rw [oshl_ii ⟨by omega, by omega⟩]
  simp
theorem same_ok (h1 : 1 ≤ n) (h3 : n ≤ 3) (hr : Row n xs) (hz : xs.length ≤ 300) (ho : out < n + xs.length) (P : PRow n xs out ys o) : Always (fun d => d = .bl true) (m_law_same [poolD, nD n, rowX xs out, rowY ys o]) := by
  have hy : ys.length ≤ 5000 := by have := P.len; omega
  have ht : tops ys = tops xs := by rw [kds_tops, kds_tops, P.kd]
  have hzy : zer ys = zer xs := by unfold zer; rw [ht]
  unfold m_law_same
  rw [fn4]
  refine done_r ?_
  unfold b__law_same
  have hsz : bin oshl (bin oadd (bin oadd (un blen (bin oidx (var 2) (cst (.int 0)))) (un blen (bin oidx (var 3) (cst (.int 0))))) (cst (.int 2))) (var 1) [some poolD, some (nD n), some (rowX xs out), some (rowY ys o), none, none, none, none, none, none, none, none, none] = .ok (nD ((xs.length + ys.length + 2) * 2 ^ n)) := by
    show (((blen (.lst (xs.map Deed.d)) >>= fun a => blen (.tup (ys.map Deed.d)) >>= fun b => oadd a b) >>= fun c => oadd c (nD 2)) >>= fun d => oshl d (nD n)) = _
    rw [len_l, bind_ok, len_t, bind_ok, nadd, bind_ok, nadd, bind_ok, shl_big (by omega) h3]
  refine asg_d hsz ?_
  have hs0 : 0 < (xs.length + ys.length + 2) * 2 ^ n := Nat.mul_pos (by omega) (Nat.two_pow_pos n)
  have hs1 : (xs.length + ys.length + 2) * 2 ^ n < 1000000 := by
    have : 2 ^ n ≤ 8 := Nat.pow_le_pow_right (n := 2) (by decide) h3
    have : (xs.length + ys.length + 2) * 2 ^ n ≤ 5302 * 8 := Nat.mul_le_mul (by omega) this
    omega
  generalize hS : (xs.length + ys.length + 2) * 2 ^ n = sz at *
  obtain ⟨room, hroom, h12, h300⟩ : ∃ room, bin bmin2 (cst (.int 300)) (bin bmax2 (cst (.int 12)) (bin ofdiv (cst (.int 20000)) (var 4))) [some poolD, some (nD n), some (rowX xs out), some (rowY ys o), some (nD sz), none, none, none, none, none, none, none, none] = .ok (nD room) ∧ 12 ≤ room ∧ room ≤ 300 := by
    refine ⟨if (if 12 < 20000 / sz then 20000 / sz else 12) < 300 then (if 12 < 20000 / sz then 20000 / sz else 12) else 300, ?_, ?_, ?_⟩
    · show ((ofdiv (nD 20000) (nD sz) >>= fun a => bmax2 (nD 12) a) >>= fun b => bmin2 (nD 300) b) = _
      rw [fdiv_n hs0 hs1, bind_ok, max_n, bind_ok, min_n]
    · repeat' split
      all_goals omega
    · repeat' split
      all_goals omega
  refine asg_d hroom ?_
  refine asg_d (d := pairD (zer xs)) ?_ ?_
  · have f1 := first_ok (DL := .lst (xs.map Deed.d)) hr (by omega) (.inl rfl)
    have f2 := first_ok (DL := .tup (ys.map Deed.d)) P.row hy (.inr rfl)
    rw [hzy] at f2
    have a1 : call m_law_first (argC (bin oidx (var 2) (cst (.int 0))) argN) [some poolD, some (nD n), some (rowX xs out), some (rowY ys o), some (nD sz), some (nD room), none, none, none, none, none, none, none] = .ok (rD (zer xs)) := f1
    have a2 : call m_law_first (argC (bin oidx (var 3) (cst (.int 0))) argN) [some poolD, some (nD n), some (rowX xs out), some (rowY ys o), some (nD sz), some (nD room), none, none, none, none, none, none, none] = .ok (rD (zer xs)) := f2
    show tupE (argC _ (argC _ argN)) [some poolD, some (nD n), some (rowX xs out), some (rowY ys o), some (nD sz), some (nD room), none, none, none, none, none, none, none] = _
    rw [tupE_eq, argC_eq, a1, bind_ok, argC_eq, a2]
    rfl
  refine asg_d (d := .lst ([zer xs].map pairD)) rfl ?_
  refine asg_d (d := .dic true [(pairD (zer xs), .bl true)]) ?_ ?_
  · have hk := key_pair (zer xs)
    show (if keyOk true (pairD (zer xs)) then _ else _) = _
    rw [if_pos hk]
  show Always _ (seq (for_ (irng1 (var 5)) (gnm 9) slK) _ (slE n (rowX xs out) (rowY ys o) (nD sz) (nD room) (pairD (zer xs)) [zer xs] [(pairD (zer xs), .bl true)] none none none none))
  obtain ⟨e', hl, ps, kvs, o9, o10, o11, rfl, hps⟩ := sl_out h1 h3 hr hz ho P (S := nD sz) (R := nD room) (F := pairD (zer xs)) h300 none none none none
  rw [for_pass (irng_n (n := room) rfl (by omega)) hl]
  have hle : tst (bin ole (un blen (var 7)) (var 5)) (slE n (rowX xs out) (rowY ys o) (nD sz) (nD room) (pairD (zer xs)) ps kvs o9 o10 o11 none) = .ok (decide (ps.length ≤ room)) := by
    refine tt ?_
    show (ole (.int ((ps.map pairD).length : Nat)) (nD room)) = _
    rw [List.length_map]
    unfold nD
    rw [ole_ii]
    congr 2
    exact decide_eq_decide.mpr (by omega)
  by_cases hc : ps.length ≤ room
  · rw [decide_eq_true hc] at hle
    exact ite_ret hle (ret_1 (d := .bl true) rfl rfl)
  · rw [decide_eq_false hc] at hle
    refine chk_p1 hle ?_
    have hmin : bin bmin2 (cst (.int 3)) (bin ofdiv (var 5) (cst (.int 12))) (slE n (rowX xs out) (rowY ys o) (nD sz) (nD room) (pairD (zer xs)) ps kvs o9 o10 o11 none) = .ok (nD (if room / 12 < 3 then room / 12 else 3)) := by
      show (ofdiv (nD room) (nD 12) >>= fun b => bmin2 (nD 3) b) = _
      rw [fdiv_n (by omega) (by omega), bind_ok, min_n]
    refine for_s (I := fun e => ∃ o9 o11 o12, e = slE n (rowX xs out) (rowY ys o) (nD sz) (nD room) (pairD (zer xs)) ps kvs o9 o10 o11 o12) (irng_n hmin (by split <;> omega)) ?_ ?_
    · refine forR_a (fun _ e => ∃ o9 o11 o12, e = slE n (rowX xs out) (rowY ys o) (nD sz) (nD room) (pairD (zer xs)) ps kvs o9 o10 o11 o12) ⟨o9, o11, none, rfl⟩ ?_
      rintro i _ hi ⟨o9, o11, o12, rfl⟩
      refine (sw_turn h3 hr hz ho P o9 o10 o11 (some (nD i))).mono ?_
      rintro _ ⟨e, rfl, o9', o11', rfl⟩
      exact ⟨_, rfl, o9', o11', some (nD i), rfl⟩
    · rintro _ ⟨o9, o11, o12, rfl⟩
      exact ret_1 (d := .bl true) rfl rfl
end
/-! ### ask -/
theorem pick_of {e : Env} {i : Nat} (n : Nat) (k : Nat) (h : e[i]? = some (some poolD)) (h0 : 0 < n) (h1 : n < 1000000) : Always (fun _ => True) (tst (bin oeq (call m_law_pick (argC (var i) (argC (cst (nD n)) argN))) (cst (nD k))) e) := by
  rw [tst_eq, bin_eq]
  refine Always.bind (Q := fun d => ∃ b : Bool, d = .bl b) (Always.bind (Q := fun d => ∃ a : Nat, d = nD a) (pickc n h rfl rfl h0 h1 fun i hi => ⟨i, rfl⟩) ?_) ?_
  · rintro _ ⟨a, rfl⟩
    show Always _ (oeq (nD a) (nD k))
    rw [nat_eq]
    exact ⟨_, rfl⟩
  · rintro _ ⟨b, rfl⟩
    exact trivial
theorem lst_plain (xs : List Deed) : plain (.lst (xs.map Deed.d)) = true := deeds_plain xs
abbrev akE (n sz : Nat) (xs : List Deed) (out : Nat) (G : D) (o6 o7 o8 o9 o10 : Option D) : Env := [some poolD, some (nD n), some (nD sz), some (.lst (xs.map Deed.d)), some (nD out), some G, o6, o7, o8, o9, o10, none]
theorem ask_ok : Always (fun d => d = .bl true) (m_law_ask [poolD]) := by
  unfold m_law_ask
  rw [fn1]
  refine done_r ?_
  unfold b__law_ask
  refine asg_a (Q := fun d => ∃ n : Nat, d = nD n ∧ 1 ≤ n ∧ n ≤ 3) ?_ ?_
  · rw [bin_eq]
    show Always _ (Res.ok (Py.D.tup [nD 1, nD 1, nD 2, nD 3, nD 2, nD 1]) >>= fun x => call m_law_pick (argC (var 0) (argC (cst (.int 6)) argN)) [some poolD, none, none, none, none, none, none, none, none, none, none, none] >>= fun y => oidx x y)
    rw [bind_ok]
    refine (pickc (Q := fun d => ∃ i : Nat, i < 6 ∧ d = nD i) 6 rfl rfl rfl (by omega) (by omega) fun i hi => ⟨i, hi, rfl⟩).bind ?_
    rintro _ ⟨i, hi, rfl⟩
    have : i = 0 ∨ i = 1 ∨ i = 2 ∨ i = 3 ∨ i = 4 ∨ i = 5 := by omega
    rcases this with rfl | rfl | rfl | rfl | rfl | rfl
    · exact ⟨1, rfl, by omega, by omega⟩
    · exact ⟨1, rfl, by omega, by omega⟩
    · exact ⟨2, rfl, by omega, by omega⟩
    · exact ⟨3, rfl, by omega, by omega⟩
    · exact ⟨2, rfl, by omega, by omega⟩
    · exact ⟨1, rfl, by omega, by omega⟩
  rintro _ ⟨n, rfl, h1, h3⟩
  refine asg_a (Q := fun d => ∃ sz : Nat, sz ≤ 13 ∧ d = nD sz) (pickc 14 rfl rfl rfl (by omega) (by omega) fun i hi => ⟨i, by omega, rfl⟩) ?_
  rintro _ ⟨sz0, hs0, rfl⟩
  refine seq_a (I := fun e => ∃ sz : Nat, sz ≤ 180 ∧ e = [some poolD, some (nD n), some (nD sz), none, none, none, none, none, none, none, none, none]) (ite_any (pick_of 12 0 rfl (by omega) (by omega)) ?_ ⟨_, rfl, sz0, by omega, rfl⟩) ?_
  · refine asg_1 (Q := fun d => ∃ sz : Nat, sz ≤ 180 ∧ d = nD sz) ?_ ?_
    · rw [bin_eq]
      show Always _ (Res.ok (nD 60) >>= _)
      rw [bind_ok]
      refine (pickc (Q := fun d => ∃ i : Nat, i < 121 ∧ d = nD i) 121 rfl rfl rfl (by omega) (by omega) fun i hi => ⟨i, hi, rfl⟩).bind ?_
      rintro _ ⟨i, hi, rfl⟩
      rw [nadd]
      exact ⟨60 + i, by omega, rfl⟩
    · rintro _ ⟨sz, hs, rfl⟩
      exact ⟨_, rfl, sz, hs, rfl⟩
  rintro _ ⟨sz, hs, rfl⟩
  refine asg_a (Q := fun d => ∃ xs : List Deed, d = .lst (xs.map Deed.d) ∧ xs.length = sz ∧ Row n xs) (deeds_ok (room := 48) h1 (by omega)) ?_
  rintro _ ⟨xs, rfl, hl, hr⟩
  have hz : xs.length ≤ 300 := by omega
  subst hl
  refine asg_d (d := nD (n + xs.length - 1)) ?_ ?_
  · show (oadd (nD n) (nD xs.length) >>= fun x => osub x (nD 1)) = _
    rw [nadd, bind_ok, nsub (by omega)]
  refine seq_a (I := fun e => ∃ out : Nat, out < n + xs.length ∧ e = [some poolD, some (nD n), some (nD xs.length), some (.lst (xs.map Deed.d)), some (nD out), none, none, none, none, none, none, none]) (ite_any (pick_of 3 0 rfl (by omega) (by omega)) ?_ ⟨_, rfl, n + xs.length - 1, by omega, rfl⟩) ?_
  · refine asg_1 (Q := fun d => ∃ out : Nat, out < n + xs.length ∧ d = nD out) ?_ ?_
    · have ha := nadd n xs.length
      exact pickc (n + xs.length) rfl (d := nD (n + xs.length)) ha rfl (by omega) (by omega) fun i hi => ⟨i, hi, rfl⟩
    · rintro _ ⟨out, h, rfl⟩
      exact ⟨_, rfl, out, h, rfl⟩
  rintro _ ⟨out, ho, rfl⟩
  refine asg_d (d := .tup (xs.map Deed.d)) rfl ?_
  refine seq_a (I := fun e => ∃ G : D, (G = .tup (xs.map Deed.d) ∨ G = .lst (xs.map Deed.d)) ∧ e = akE n xs.length xs out G none none none none none) (ite_any (pick_of 2 1 rfl (by omega) (by omega)) ?_ ⟨_, rfl, _, .inl rfl, rfl⟩) ?_
  · refine asg_1 (Q := fun d => d = .lst (xs.map Deed.d)) rfl ?_
    rintro _ rfl
    exact ⟨_, rfl, _, .inr rfl, rfl⟩
  rintro _ ⟨G, hG, rfl⟩
  have hrow : m_Row [nD n, G, nD out] = .ok (rowD n xs out) := by
    rcases hG with rfl | rfl
    · exact row_made h1 h3 hr (by omega) ho
    · exact row_made_l h1 h3 hr (by omega) ho
  obtain ⟨ys, o, hpl, P⟩ := plain_row_ok (out := out) h1 h3 hr hz ho
  have hy : ys.length ≤ 5000 := by have := P.len; omega
  refine asg_d (d := rowD n xs out) hrow ?_
  refine asg_d (d := rowD n ys o) hpl ?_
  have E : ∀ (o6 o7 o8 o9 o10 : Option D), (akE n xs.length xs out G o6 o7 o8 o9 o10).length = 12 := fun _ _ _ _ _ => rfl
  refine chk_p1 (nt (plain_ok (out := out) h3 hz P)) ?_
  refine chk_p1 ?_ ?_
  · refine orF (tf ?_) (orF (tf ?_) (orF (tf ?_) (tf ?_)))
    · show Py.one (nD n) (nD n) = _
      rw [one_n]
      simp
    · exact one_refl (deeds_plain xs)
    · show Py.one (nD out) (nD out) = _
      rw [one_n]
      simp
    · have : un blist (var 5) (akE n xs.length xs out G (some (rowD n xs out)) (some (rowD n ys o)) none none none) = .ok (.lst (xs.map Deed.d)) := by rcases hG with rfl | rfl <;> rfl
      show (un blist (var 5) (akE n xs.length xs out G (some (rowD n xs out)) (some (rowD n ys o)) none none none) >>= fun a => Py.one a (.lst (xs.map Deed.d))) = _
      rw [this, bind_ok]
      exact one_refl (lst_plain xs)
  refine asg_d (d := nD (xs.filter isCar).length) ?_ ?_
  · have a4 := car_l (it := iseq (var 3)) (i := 11) (e := akE n xs.length xs out G (some (rowD n xs out)) (some (rowD n ys o)) none none none) (xs := xs) rfl (by omega) (by rw [E]; decide)
    show un blen (lcE (iseq (var 3)) [11] (gnm 11) (crT 11) (var 11)) (akE n xs.length xs out G (some (rowD n xs out)) (some (rowD n ys o)) none none none) = _
    rw [un_eq, a4, bind_ok, len_l]
  refine asg_d (d := nD (xs.filter isCar).length) (carry_count_ok (by omega)) ?_
  refine chk_p1 ?_ ?_
  · refine orF (nt ?_) (tf ?_)
    · have ha := nadd (xs.filter isCar).length 1
      show (argC (var 9) (argC (bin oadd (var 8) (cst (.int 1))) argN) (akE n xs.length xs out G (some (rowD n xs out)) (some (rowD n ys o)) (some (nD (xs.filter isCar).length)) (some (nD (xs.filter isCar).length)) none) >>= m_law_number) = _
      have e2 : argC (var 9) (argC (bin oadd (var 8) (cst (.int 1))) argN) (akE n xs.length xs out G (some (rowD n xs out)) (some (rowD n ys o)) (some (nD (xs.filter isCar).length)) (some (nD (xs.filter isCar).length)) none) = .ok [nD (xs.filter isCar).length, nD ((xs.filter isCar).length + 1)] := by
        show (Res.ok (nD (xs.filter isCar).length) >>= fun x => ((oadd (nD (xs.filter isCar).length) (nD 1)) >>= fun x => Res.ok [x]) >>= fun xs => .ok (x :: xs)) = _
        rw [ha]
        rfl
      rw [e2]
      exact number_t (by omega)
    · show Py.one (nD (xs.filter isCar).length) (nD (xs.filter isCar).length) = _
      rw [one_n]
      simp
  refine asg_d (d := rowD n ys o) ?_ ?_
  · have hr2 : m_Row [nD n, .lst (xs.map Deed.d), nD out] = .ok (rowD n xs out) := row_made_l h1 h3 hr (by omega) ho
    show ((((m_Row [nD n, .lst (xs.map Deed.d), nD out]) >>= fun x => Res.ok [x])) >>= m_plain_row) = _
    rw [hr2]
    exact hpl
  refine chk_p1 ?_ ?_
  · refine orF rfl (tf ?_)
    show Py.one (nD n) (nD n) = _
    rw [one_n]
    simp
  refine chk_p1 ?_ ?_
  · refine orF (tf (one_refl (deeds_plain ys))) (tf ?_)
    show Py.one (nD o) (nD o) = _
    rw [one_n]
    simp
  exact ret_r (same_ok h1 h3 hr hz ho P)
/-- the script's cells as a pool -/
theorem allI_map : ∀ ns : List Int, (allI (ns.map .int)).isSome = true
  | [] => rfl
  | n :: ns => by
    have ih := allI_map ns
    show ((allI (ns.map .int)).map (n :: ·)).isSome = true
    cases h : allI (ns.map .int) with
    | none => rw [h] at ih; cases ih
    | some r => rfl
theorem law_true (ns : List Int) (h : ns.length ≤ 63) : Always (fun d => d = .bl true) (m_law [.lst (ns.map .int)]) := by
  have hc : cut (ns.map Py.D.int) none (some (63 : Int)) = ns.map Py.D.int := by
    show ((ns.map Py.D.int).drop 0).take (min 63 (ns.map Py.D.int).length - 0) = _
    rw [List.drop_zero, List.take_of_length_le (by rw [List.length_map]; omega)]
  have e1 : lcE (iseq (slc (var 0) none (some (cst (.int 63))))) [2] (gnm 2) yes (un bint (var 2)) [some (.lst (ns.map .int)), none, none] = .ok (.lst (ns.map .int)) := by
    refine lc_mapI (k := Py.D.int) (h := Py.D.int) (ys := ns) ?_ (le_sz (by omega)) fun z _ => ⟨[some (.lst (ns.map .int)), none, some (.int z)], rfl, rfl⟩
    show ((Res.ok (Py.D.lst (cut (ns.map Py.D.int) none (some 63)))) >>= _) = _
    rw [hc]
    rfl
  unfold m_law
  rw [fn1]
  unfold b_law
  refine done_r ?_
  refine asg_d (d := poolD) ?_ ?_
  · show (lstE _ _ >>= mkpF) = _
    rw [lstE_eq, argC_eq]
    show ((lcE (iseq (slc (var 0) none (some (cst (.int 63))))) [2] (gnm 2) yes (un bint (var 2)) [some (.lst (ns.map .int)), none, none] >>= _) >>= _) >>= mkpF = _
    rw [e1]
    show mkpF (.lst [.lst (ns.map .int), .int 0, .int 0, .int 1]) = _
    show (if (allI (ns.map .int)).isSome = true ∧ _ then _ else _) = _
    rw [if_pos ⟨allI_map ns, by omega, by omega, by omega⟩]
  · rw [thru_eq]
    refine Always.noexc (ret_r ?_)
    exact ask_ok
end Py.U
open PySem PySem.W PySem.Calls PyProof.Rows
theorem PySem.Challenge.cw_onlycarries_k25_plain_rows_holds : PySem.Challenge.rw_onlycarries_k25_plain_rows.Holds := by
  w_on; o_law
  refine HandSHeadRun.head_any (r := OpenLaw.row PySem.Challenge.rw_onlycarries_k25_plain_rows) (q := view (OpenLaw.row PySem.Challenge.rw_onlycarries_k25_plain_rows).prog [41]) (H := Py.hkY) (ob := Py.ob) (M := 8000) (loose := Py.lo) (d := HandSHeadRun.topDef (OpenLaw.row PySem.Challenge.rw_onlycarries_k25_plain_rows).prog 41) (kwd := []) Py.ob_eq
    (by kernel_rfl) (fun s => by kernel_rfl) Py.run (by kernel_rfl) (by kernel_rfl) (by kernel_rfl) (by rfl) (by first | assumption | decide +kernel) (by decide +kernel) ⟨rfl, rfl, rfl, rfl, rfl, by decide +kernel⟩ ?hw ?hc
  case hw => w_witness2
  case hc =>
    refine Py.walk_ofW (l := PySem.Challenge.rw_onlycarries_k25_plain_rows) (n := 63) (k := 10) (x := "script") (CX := fun w => L2N.CX PySem.Challenge.pw_onlycarries_k25_plain_rows w) rfl (by decide) (by kernel_rfl) ⟨rfl, by decide, by decide⟩ ?F (fun _ _ _ _ _ z => Py.cx_none z)
    intro w mg fa h Y G hmg0
    letI wi : Py.WI := ⟨w⟩
    haveI hw : Py.HW w := ⟨rfl⟩
    obtain ⟨K, KX, c, m, xq⟩ := Y
    have hmg : mg ("law" : PySem.Str) = some (.ref fa) := by
      have e : (HandSHeadRun.topDef (OpenLaw.row PySem.Challenge.rw_onlycarries_k25_plain_rows).prog 41).name = ("law" : PySem.Str) := by kernel_rfl
      rw [← e]
      exact hmg0
    have YY : Py.Fs (PySem.Challenge.rw_onlycarries_k25_plain_rows).prog w K mg := ⟨⟨c, m, h, KX, G⟩, xq, by kernel_rfl, by kernel_rfl⟩
    have e2 := hmg.symm.trans (YY.glo 52)
    cases e2
    obtain ⟨fd, hb, hF⟩ := Py.law_is (P := (PySem.Challenge.rw_onlycarries_k25_plain_rows).prog) YY
    exact ⟨K, fd, _, KX, hb, fun H a ns hl _ hS => Py.sp_lawA YY.noL (Py.U.law_true ns hl) hS, fun base _ _ => hF base⟩
