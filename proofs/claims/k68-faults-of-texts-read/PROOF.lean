import PyProof.Rows.All
import Wide.All
import OpenK.AllK
import Wide.FinOn
import HandS.ForMost
import HandS.WideBits
import KE.BitLaws
import HandS.Exc
import HandS.TryOnly
import HandS.ExcOwn
import HandS.WordsExc
import HandS.WordsList
import HandS.IsInst
import HandS.ExcCtx
import HandS.Hot
import HandS.HotCalls
import HandS.ExcIs
import HandS.ExcField
import HandS.Defaults
import HandS.Flow
import HandS.Style
import HandS.TupAny
import HandS.HeadHook1
import HandS.HeadHook2
import HandS.Dict
import KE.KeyNested
import HandS.Small
import HandS.WordsDict
import KE.KDictKeyed
import PyProof.Rows.SeqRoads
import HandS.CallSlots
import KE.GoesEnum
import HandS.HeadEnd
import HandS.HeadHook3
import HandS.Head3
import HandS.Zip
import HandS.ExcInit
import HandS.Nested
import KE.KExcSuper
import KE.KExcIs
import HandS.TupMul
import HandS.Conv
import HandS.Star
import KE.KDictDisplayH
import OpenK.KOps
import KE.KDictWalk
import KE.KDictZip
import KE.GoesMore
import KE.KStar
import HandS.ExcValue
import HandS.SlotsOwn
import KE.SortData
import HandS.DictComp
import KE.KDictList
import HandS.FStr
import HandS.Text
import HandS.Iter
import KE.DatumOrd
import HandS.Head0
import HandS.Head1
import HandS.Head2
import PySem.Challenge.RW_onlycarries_k68_faults_of_texts_read
set_option Elab.async false
set_option linter.all false
set_option maxRecDepth 100000
set_option maxHeartbeats 0
/-! Plain data of a small Python, and what its expressions, statements and defs compute: total Lean functions, no program in sight. -/
namespace Py
open PySem L2
inductive D where
  | non | bl (b : Bool) | int (i : Int) | str (s : String)
  | tup (xs : List D) | lst (xs : List D) | dic (t : Bool) (kvs : List (D × D)) | ins (c : String) (fs : List (String × D)) | drw (q : Bool ⊕ (Nat × List Int))
  deriving Inhabited
/-- what code computes; pick n k: some number i up to n is drawn -/
inductive Res (α : Type) where
  | ok (a : α) | exc (c : String) (fs : List (String × D)) | stuck | pick (n : Nat) (k : Nat → Res α)
def Res.bindR {α β : Type} (f : α → Res β) : Res α → Res β
  | .ok a => f a | .exc c fs => .exc c fs | .stuck => .stuck | .pick n k => .pick n fun i => Res.bindR f (k i)
@[reducible] def Res.bind {α β : Type} (r : Res α) (f : α → Res β) : Res β := match r with
  | .ok a => f a | .exc c fs => .exc c fs | .stuck => .stuck | .pick n k => .pick n fun i => Res.bindR f (k i)
instance : Monad Res := { pure := Res.ok, bind := Res.bind }
@[simp] theorem bind_ok {α β : Type} (a : α) (f : α → Res β) : (Res.ok a >>= f) = f a := rfl
@[simp] theorem bind_exc {α β : Type} (c : String) (fs) (f : α → Res β) : ((Res.exc c fs : Res α) >>= f) = .exc c fs := rfl
@[simp] theorem bind_stuck {α β : Type} (f : α → Res β) : ((Res.stuck : Res α) >>= f) = .stuck := rfl
theorem bindR_eq {α β : Type} (f : α → Res β) (r : Res α) : Res.bindR f r = (r >>= f) := by cases r <;> rfl
@[simp] theorem bind_pick {α β : Type} (n : Nat) (k : Nat → Res α) (f : α → Res β) : (Res.pick n k >>= f) = .pick n fun i => k i >>= f := by
  show Res.pick n (fun i => Res.bindR f (k i)) = _
  congr 1
  funext i
  exact bindR_eq f (k i)
@[simp] theorem pure_ok {α : Type} (a : α) : (pure a : Res α) = .ok a := rfl
def noexc {α : Type} : Res α → Res α
  | .ok a => .ok a | .exc _ _ => .stuck | .stuck => .stuck | .pick n k => .pick n fun i => noexc (k i)
@[simp] theorem noexc_ok {α : Type} (a : α) : noexc (.ok a : Res α) = .ok a := rfl
@[simp] theorem noexc_pick {α : Type} (n : Nat) (k : Nat → Res α) : noexc (.pick n k) = .pick n fun i => noexc (k i) := rfl
/-- what is done of an error -/
def Res.catch_ {α : Type} (h : String → List (String × D) → Res α) : Res α → Res α
  | .ok a => .ok a | .exc c fs => h c fs | .stuck => .stuck | .pick n k => .pick n fun i => Res.catch_ h (k i)
@[simp] theorem catch_ok {α : Type} (h : String → List (String × D) → Res α) (a : α) : Res.catch_ h (.ok a) = .ok a := rfl
@[simp] theorem catch_exc {α : Type} (h : String → List (String × D) → Res α) (c : String) (fs) : Res.catch_ h (.exc c fs) = h c fs := rfl
@[simp] theorem catch_stuck {α : Type} (h : String → List (String × D) → Res α) : Res.catch_ h (.stuck : Res α) = .stuck := rfl
@[simp] theorem catch_pick {α : Type} (h : String → List (String × D) → Res α) (n : Nat) (k : Nat → Res α) : Res.catch_ h (.pick n k) = .pick n fun i => Res.catch_ h (k i) := rfl
def SZ : Nat := 16777216
abbrev Env := List (Option D)
abbrev EM := Env → Res D
abbrev TM := Env → Res Bool
abbrev AM := Env → Res (List D)
inductive Fl where
  | next (e : Env) | ret (d : D) | brk (e : Env) | cnt (e : Env)
abbrev SM := Env → Res Fl
/-! ### data -/
def chk (n : Nat) (d : D) : Res D := if n ≤ SZ then .ok d else .stuck
theorem chk_ok {n : Nat} {d : D} (h : n ≤ SZ) : chk n d = .ok d := if_pos h
/-- no dict or instance within, at most n deep: == walks it -/
def pl : Nat → D → Bool
  | _, .non => true
  | _, .bl _ => true
  | _, .int _ => true
  | _, .str _ => true
  | n + 1, .tup xs => xs.all (pl n)
  | n + 1, .lst xs => xs.all (pl n)
  | _, _ => false
def plain (d : D) : Bool := pl 64 d
/-- no object but a text -/
def flatD : D → Bool
  | .non => true
  | .bl _ => true
  | .int _ => true
  | .str _ => true
  | _ => false
def b2i (b : Bool) : Int := if b then 1 else 0
/-- == of plain data -/
def eqv : D → D → Bool
  | .non, .non => true
  | .bl a, .bl b => a == b
  | .bl a, .int j => b2i a == j
  | .int i, .bl b => i == b2i b
  | .int i, .int j => i == j
  | .str a, .str b => a == b
  | .tup xs, .tup ys => eqvL xs ys
  | .lst xs, .lst ys => eqvL xs ys
  | _, _ => false
where eqvL : List D → List D → Bool
  | [], [] => true
  | x :: xs, y :: ys => eqv x y && eqvL xs ys
  | _, _ => false
inductive Ty where
  | non | bl | int | str | tup | lst | dic | cls (c : String)
  deriving DecidableEq
def isI (t : Ty) : D → Bool
  | .non => decide (t = .non)
  | .bl _ => decide (t = .bl) || decide (t = .int)
  | .int _ => decide (t = .int)
  | .str _ => decide (t = .str)
  | .tup _ => decide (t = .tup)
  | .lst _ => decide (t = .lst)
  | .dic _ _ => decide (t = .dic)
  | .ins c _ => decide (t = .cls c)
  | .drw _ => decide (t = .dic)
/-! ### operators -/
def oadd : D → D → Res D
  | .int i, .int j => .ok (.int (i + j))
  | .str a, .str b => if a.length + b.length ≤ SZ then .ok (.str (a ++ b)) else .stuck
  | .tup a, .tup b => if a.length + b.length ≤ SZ then .ok (.tup (a ++ b)) else .stuck
  | .lst a, .lst b => if a.length + b.length ≤ SZ then .ok (.lst (a ++ b)) else .stuck
  | _, _ => .stuck
def osub : D → D → Res D
  | .int i, .int j => .ok (.int (i - j))
  | _, _ => .stuck
def B64 : Nat := 18446744073709551616
def omul : D → D → Res D
  | .int i, .int j => if i.natAbs < B64 ∨ j.natAbs < B64 then .ok (.int (i * j)) else .stuck
  | _, _ => .stuck
def ofdiv : D → D → Res D
  | .int i, .int j => if 0 < j ∧ j < 1073741824 then .ok (.int (i / j)) else .stuck
  | _, _ => .stuck
def omod : D → D → Res D
  | .int i, .int j => if 0 < j then .ok (.int (i % j)) else .stuck
  | _, _ => .stuck
def opow : D → D → Res D
  | .int i, .int j => if 0 ≤ j ∧ j ≤ 1000000 ∧ i.natAbs < 18446744073709551616 then .ok (.int (i ^ j.toNat)) else .stuck
  | _, _ => .stuck
def oshl : D → D → Res D
  | .int i, .int j => if 0 ≤ j ∧ (Builtin.Int.intBits i : Int) + j ≤ 134217728 then .ok (.int (i * 2 ^ j.toNat)) else .stuck
  | _, _ => .stuck
def oand : D → D → Res D
  | .int i, .int j => .ok (.int (Builtin.bitAnd i j))
  | _, _ => .stuck
def oneg : D → Res D
  | .int i => .ok (.int (-i))
  | _ => .stuck
def opt : Option D → Res D
  | some d => .ok d
  | none => .stuck
def tyOf : D → Ty
  | .non => .non | .bl _ => .bl | .int _ => .int | .str _ => .str | .tup _ => .tup | .lst _ => .lst | .dic _ _ => .dic | .ins c _ => .cls c | .drw _ => .dic
/-- an instance's class is among these, so is a class that is asked for -/
def inCs (cs : List String) : Ty → Bool
  | .cls c => cs.contains c
  | .dic => false
  | _ => true
def oisi (cs : List String) (ts : List Ty) (d : D) : Res D := if inCs cs (tyOf d) && ts.all (fun t => inCs cs t && decide (t ≠ .non)) then .ok (.bl (ts.any fun t => isI t d)) else .stuck
def oattr (cs : List String) (f : String) : D → Res D
  | .ins c fs => if cs.contains c then opt (fs.lookup f) else .stuck
  | _ => .stuck
/-- x += y of numbers -/
def oiadd : D → D → Res D
  | .int i, .int j => .ok (.int (i + j))
  | _, _ => .stuck
def olt : D → D → Res D
  | .int i, .int j => .ok (.bl (decide (i < j)))
  | _, _ => .stuck
def ole : D → D → Res D
  | .int i, .int j => .ok (.bl (decide (i ≤ j)))
  | _, _ => .stuck
def ogt : D → D → Res D
  | .int i, .int j => .ok (.bl (decide (j < i)))
  | _, _ => .stuck
def oge : D → D → Res D
  | .int i, .int j => .ok (.bl (decide (j ≤ i)))
  | _, _ => .stuck
def oeq (x y : D) : Res D := if plain x && plain y then .ok (.bl (eqv x y)) else .stuck
def one (x y : D) : Res D := if plain x && plain y then .ok (.bl (!eqv x y)) else .stuck
/-- x in ys -/
def mem (x : D) : List D → Bool
  | [] => false
  | y :: r => eqv y x || mem x r
/-- numbers, None and tuples of such, at most n deep -/
def hk : Nat → D → Bool
  | _, .non => true
  | _, .bl _ => true
  | _, .int _ => true
  | n + 1, .tup xs => xs.all (hk n)
  | _, _ => false
/-- a key of a dict; t: its keys are tuples -/
def keyOk : Bool → D → Bool
  | false, .int _ => true
  | false, .str _ => true
  | true, .tup xs => hk 8 (.tup xs)
  | _, _ => false
def find (k : D) : List (D × D) → Option D
  | [] => none
  | (a, v) :: r => if eqv a k then some v else find k r
/-- d[k] = v -/
def putD (k v : D) : List (D × D) → List (D × D)
  | [] => [(k, v)]
  | (a, x) :: r => if eqv a k then (a, v) :: r else (a, x) :: putD k v r
def oin : D → D → Res D
  | x, .lst ys => if flatD x && ys.all flatD then .ok (.bl (mem x ys)) else .stuck
  | x, .tup ys => if flatD x && ys.all flatD then .ok (.bl (mem x ys)) else .stuck
  | x, .dic t kvs => if keyOk t x then .ok (.bl (find x kvs).isSome) else .stuck
  | _, _ => .stuck
def onotin : D → D → Res D
  | x, .lst ys => if flatD x && ys.all flatD then .ok (.bl (!mem x ys)) else .stuck
  | x, .tup ys => if flatD x && ys.all flatD then .ok (.bl (!mem x ys)) else .stuck
  | x, .dic t kvs => if keyOk t x then .ok (.bl (!(find x kvs).isSome)) else .stuck
  | _, _ => .stuck
def isNon : D → Bool
  | .non => true
  | _ => false
def oisN (x : D) : Res D := .ok (.bl (isNon x))
def onotN (x : D) : Res D := .ok (.bl (!isNon x))
def truthy : D → Res Bool
  | .non => .ok false
  | .bl b => .ok b
  | .int i => .ok (i != 0)
  | .str s => if s.length ≤ SZ then .ok (s.length != 0) else .stuck
  | .tup xs => .ok (!xs.isEmpty)
  | .lst xs => .ok (!xs.isEmpty)
  | _ => .stuck
def onb : D → Res D
  | .bl k => .ok (.bl (!k))
  | _ => .stuck
/-! ### subscripts -/
def oidx : D → D → Res D
  | .lst xs, .int i => opt (atI xs i)
  | .tup xs, .int i => opt (atI xs i)
  | .str s, .int i => if s.length ≤ SZ then opt ((atI s.toList i).map fun c => .str (String.ofList [c])) else .stuck
  | .dic t kvs, k => if keyOk t k then opt (find k kvs) else .stuck
  | _, _ => .stuck
/-- the items from lo up to hi -/
def cut {α : Type} (xs : List α) (lo hi : Option Int) : List α := (xs.drop (HT.sIx xs.length 0 lo)).take (HT.sIx xs.length xs.length hi - HT.sIx xs.length 0 lo)
def oslc : D → Option Int → Option Int → Res D
  | .lst xs, lo, hi => .ok (.lst (cut xs lo hi))
  | .tup xs, lo, hi => .ok (.tup (cut xs lo hi))
  | .str s, lo, hi => if s.length ≤ SZ then .ok (.str (String.ofList (cut s.toList lo hi))) else .stuck
  | _, _, _ => .stuck
/-! ### a table of the module: texts to numbers -/
def onothas (tab : List (String × Int)) : D → Res D
  | .str s => .ok (.bl (!(tab.lookup s).isSome))
  | _ => .stuck
def olook (tab : List (String × Int)) : D → Res D
  | .str s => opt ((tab.lookup s).map D.int)
  | _ => .stuck
/-! ### built-in calls -/
def blen : D → Res D
  | .lst xs => .ok (.int xs.length)
  | .tup xs => .ok (.int xs.length)
  | .str s => if s.length ≤ SZ then .ok (.int s.length) else .stuck
  | .dic _ kvs => .ok (.int kvs.length)
  | _ => .stuck
def bint : D → Res D
  | .int i => .ok (.int i)
  | .bl b => .ok (.int (b2i b))
  | _ => .stuck
def btuple : D → Res D
  | .lst xs => .ok (.tup xs)
  | .tup xs => .ok (.tup xs)
  | _ => .stuck
def blist : D → Res D
  | .lst xs => .ok (.lst xs)
  | .tup xs => .ok (.lst xs)
  | _ => .stuck
def intsOf : List D → Option (List Int)
  | [] => some []
  | .int i :: r => (intsOf r).map (i :: ·)
  | _ :: _ => none
def boolsOf : List D → Option (List Bool)
  | [] => some []
  | .bl i :: r => (boolsOf r).map (i :: ·)
  | _ :: _ => none
def ball : D → Res D
  | .lst xs => match boolsOf xs with | some bs => .ok (.bl (bs.all id)) | none => .stuck
  | _ => .stuck
def bmin2 : D → D → Res D
  | .int i, .int j => .ok (.int (if j < i then j else i))
  | _, _ => .stuck
/-- max and min of a list of numbers -/
def bmaxL : D → Res D
  | .lst xs => match intsOf xs with | some (i :: is) => .ok (.int (is.foldl (fun a b => if b > a then b else a) i)) | _ => .stuck
  | _ => .stuck
/-! ### expressions -/
def var (i : Nat) : EM := fun e => match e[i]? with | some (some d) => .ok d | _ => .stuck
def cst (d : D) : EM := fun _ => .ok d
def un (f : D → Res D) (a : EM) : EM := fun e => a e >>= f
def bin (f : D → D → Res D) (a b : EM) : EM := fun e => a e >>= fun x => b e >>= fun y => f x y
def argN : AM := fun _ => .ok []
def argC (a : EM) (r : AM) : AM := fun e => a e >>= fun x => r e >>= fun xs => .ok (x :: xs)
def tupE (a : AM) : EM := fun e => a e >>= fun xs => chk xs.length (.tup xs)
def lstE (a : AM) : EM := fun e => a e >>= fun xs => chk xs.length (.lst xs)
/-- {} and {k: v} -/
def dic0 (t : Bool) : EM := fun _ => .ok (.dic t [])
/-- x and y, x or y as values, x a truth -/
def andE (a b : EM) : EM := fun e => a e >>= fun x => match x with | .bl true => b e | .bl false => .ok (.bl false) | _ => .stuck
def orE (a b : EM) : EM := fun e => a e >>= fun x => match x with | .bl false => b e | .bl true => .ok (.bl true) | _ => .stuck
/-- a < b < c -/
def chain (f g : D → D → Res D) (a b c : EM) : EM := fun e => a e >>= fun x => b e >>= fun y => f x y >>= fun z => match z with
  | .bl true => c e >>= fun u => g y u
  | .bl false => .ok (.bl false)
  | _ => .stuck
def tst (a : EM) : TM := fun e => a e >>= truthy
def andT (a b : TM) : TM := fun e => a e >>= fun x => if x then b e else .ok false
def orT (a b : TM) : TM := fun e => a e >>= fun x => if x then .ok true else b e
def notT (a : TM) : TM := fun e => a e >>= fun x => .ok (!x)
def ifE (t : TM) (a b : EM) : EM := fun e => t e >>= fun x => if x then a e else b e
def slc (a : EM) (lo hi : Option EM) : EM := fun e => a e >>= fun x => bnd lo e >>= fun i => bnd hi e >>= fun j => oslc x i j
where bnd : Option EM → Env → Res (Option Int)
  | none, _ => .ok none
  | some m, e => m e >>= fun d => match d with | .int i => .ok (some i) | _ => .stuck
def call (f : List D → Res D) (a : AM) : EM := fun e => a e >>= f
/-! what is walked -/
abbrev IM := Env → Res (List D)
def iseq (a : EM) : IM := fun e => a e >>= fun x => match x with | .lst xs => .ok xs | .tup xs => .ok xs | _ => .stuck
def B62 : Nat := 4611686018427387904
def rngL (lo hi : Int) : List D := (List.range (hi - lo).toNat).map fun i => .int (lo + (i : Nat))
def irng1 (a : EM) : IM := fun e => a e >>= fun x => match x with
  | .int n => if n.natAbs < B62 then .ok (rngL 0 n) else .stuck
  | _ => .stuck
def irng2 (a b : EM) : IM := fun e => a e >>= fun x => b e >>= fun y => match x, y with
  | .int m, .int n => if m.natAbs < B62 ∧ n.natAbs < B62 then .ok (rngL m n) else .stuck
  | _, _ => .stuck
def enumL (n : Nat) : List D → List D
  | [] => []
  | d :: r => .tup [.int n, d] :: enumL (n + 1) r
def ienum (a : EM) : IM := fun e => iseq a e >>= fun xs => .ok (enumL 0 xs)
def seqOf : D → Option (Bool × List D)
  | .lst xs => some (false, xs)
  | .tup xs => some (true, xs)
  | _ => none
/-- .., *a, .. -/
def argS (a : EM) (r : AM) : AM := fun e => a e >>= fun x => match seqOf x with
  | some (_, xs) => r e >>= fun ys => .ok (xs ++ ys)
  | none => .stuck
/-! targets -/
def lift {α : Type} : Option α → Res α
  | some a => .ok a
  | none => .stuck
@[simp] theorem lift_some {α : Type} (a : α) : lift (some a) = .ok a := rfl
@[simp] theorem lift_none {α : Type} : lift (none : Option α) = .stuck := rfl
abbrev GM := D → Env → Option Env
def gnm (i : Nat) : GM := fun d e => some (e.set i (some d))
def gtupL : List GM → List D → Env → Option Env
  | [], [], e => some e
  | g :: gs, d :: ds, e => (g d e).bind (gtupL gs ds)
  | _, _, _ => none
def gtup (gs : List GM) : GM := fun d e => match d with | .tup xs => gtupL gs xs e | _ => none
/-! comprehensions -/
def wipe (e : Env) : List Nat → Env
  | [] => e
  | i :: r => (wipe e r).set i none
def compL (f : D → Res (Option D)) : List D → Res (List D)
  | [] => .ok []
  | x :: xs => f x >>= fun o => compL f xs >>= fun ys => .ok (match o with | some y => y :: ys | none => ys)
def yes : TM := fun _ => .ok true
def compF (vs : List Nat) (g : GM) (t : TM) (elt : EM) (e : Env) (x : D) : Res (Option D) :=
  lift (g x (wipe e vs)) >>= fun e1 => t e1 >>= fun b => if b then elt e1 >>= fun y => .ok (some y) else .ok none
def lcE (it : IM) (vs : List Nat) (g : GM) (t : TM) (elt : EM) : EM := fun e => it e >>= fun xs =>
  noexc (compL (compF vs g t elt e) xs) >>= fun ys => chk xs.length (.lst ys)
/-! ### statements -/
def seq (a b : SM) : SM := fun e => a e >>= fun f => match f with | .next e' => b e' | r => .ok r
def skip : SM := fun e => .ok (.next e)
def asg (g : GM) (m : EM) : SM := fun e => m e >>= fun d => lift (g d e) >>= fun e' => .ok (.next e')
def aug (i : Nat) (f : D → D → Res D) (m : EM) : SM := fun e => var i e >>= fun x => m e >>= fun y => f x y >>= fun z => .ok (.next (e.set i (some z)))
def drop (m : EM) : SM := fun e => m e >>= fun _ => .ok (.next e)
def ret (m : EM) : SM := fun e => m e >>= fun d => .ok (.ret d)
def retN : SM := fun _ => .ok (.ret .non)
def ite (t : TM) (a b : SM) : SM := fun e => t e >>= fun x => if x then a e else b e
def brk : SM := fun e => .ok (.brk e)
def cnt : SM := fun e => .ok (.cnt e)
def forL (body : D → Env → Res Fl) : List D → Env → Res Fl
  | [], e => .ok (.next e)
  | x :: xs, e => body x e >>= fun fl => match fl with
    | .next e' => forL body xs e'
    | .cnt e' => forL body xs e'
    | .brk e' => .ok (.next e')
    | .ret d => .ok (.ret d)
def forB (g : GM) (body : SM) (x : D) (e : Env) : Res Fl := lift (g x e) >>= body
def for_ (it : IM) (g : GM) (body : SM) : SM := fun e => it e >>= fun xs => forL (forB g body) xs e
/-- a name's own list grows -/
def app (i : Nat) (m : EM) : SM := fun e => var i e >>= fun l => match l with
  | .lst xs => m e >>= fun d => if xs.length < SZ then .ok (.next (e.set i (some (.lst (xs ++ [d]))))) else .stuck
  | _ => .stuck
/-- xs[j] = v of a name's own list or dict -/
def setL (i : Nat) (j m : EM) : SM := fun e => var i e >>= fun l => match l with
  | .lst xs => m e >>= fun d => j e >>= fun k => match k with
    | .int z => match ixN xs.length z with
      | some n => .ok (.next (e.set i (some (.lst (xs.set n d)))))
      | none => .stuck
    | _ => .stuck
  | .dic t kvs => m e >>= fun d => j e >>= fun k => if keyOk t k && decide (kvs.length < SZ) then .ok (.next (e.set i (some (.dic t (putD k d kvs))))) else .stuck
  | _ => .stuck
/-- x.extend(y) of a name's own list -/
def ext (i : Nat) (m : EM) : SM := fun e => var i e >>= fun l => match l with
  | .lst xs => m e >>= fun d => match d with
    | .lst ys => if xs.length + ys.length ≤ SZ then .ok (.next (e.set i (some (.lst (xs ++ ys))))) else .stuck
    | _ => .stuck
  | _ => .stuck
def putF (f : String) (d : D) : List (String × D) → List (String × D)
  | [] => [(f, d)]
  | (g, x) :: r => if g = f then (f, d) :: r else (g, x) :: putF f d r
/-- self.f = v in an __init__ -/
def setF (i : Nat) (cs : List String) (f : String) (m : EM) : SM := fun e => var i e >>= fun o => match o with
  | .ins c fs => if cs.contains c ∧ fs.length < 1000 then m e >>= fun d => .ok (.next (e.set i (some (.ins c (putF f d fs))))) else .stuck
  | _ => .stuck
/-- raise C(..) -/
def rais (c : String) (ns : List String) (a : AM) : SM := fun e => a e >>= fun ds => if ds.length = ns.length then .exc c (ns.zip ds).reverse else .stuck
/-- code that is not reached -/
def dead : SM := fun _ => .stuck
def thru (m : SM) : SM := fun e => noexc (m e)
/-! ### errors that are caught -/
/-- try: b, except ..: what is done with the error's class and fields; i: the name's slot -/
def sufE (i : Nat) (fl : Fl) : Res Fl := match fl with
  | .next e' => .ok (.next (e'.set i none))
  | .ret d => .ok (.ret d)
  | _ => .stuck
/-- try: b, except x as ..: other errors pass -/
def tryX (x : String) (es : List String) (i : Nat) (b : SM) (h : String → List (String × D) → SM) : SM := fun e => Res.catch_ (fun c fs => if es.contains c && decide (i < e.length) then (if c = x then noexc (h c fs (e.set i none)) >>= sufE i else .exc c fs) else .stuck) (b e)
def xisa (c : String) (ts : List String) : Bool := ts.any fun t => c == t || (t == "CarryError" || t == "ValueError")
/-- isinstance(e, (..)) of the caught error -/
def xis (es all : List String) (c : String) (ts : List String) : EM := fun _ => if es.contains c && ts.all all.contains then .ok (.bl (xisa c ts)) else .stuck
/-- e.f -/
def xfld (es fl : List String) (c f : String) (fs : List (String × D)) : EM := fun _ => if es.contains c && fl.contains f then opt (fs.lookup f) else .stuck
/-! ### defs -/
def doneF (fl : Fl) : Res D := match fl with
  | .next _ => .ok .non
  | .ret d => .ok d
  | .brk _ => .stuck
  | .cnt _ => .stuck
def done (r : Res Fl) : Res D := r >>= doneF
/-- a def of p parameters and n names -/
def fn (p n : Nat) (body : SM) (ds : List D) : Res D := if ds.length = p then done (body (ds.map some ++ List.replicate (n - p) none)) else .stuck
def madeF (cls : String) (fl : Fl) : Res D := match fl with
  | .next (some (.ins c fs) :: _) => .ok (.ins c fs)
  | _ => .stuck
def made (p n : Nat) (cls : String) (body : SM) (ds : List D) : Res D := if ds.length + 1 = p then
  body ((some (.ins cls []) :: ds.map some) ++ List.replicate (n - p) none) >>= madeF cls else .stuck
end Py
namespace Py
open PySem PySem.Spec PyProof.Rows L2
open He (Fa DefD Tab FnW)
open He
abbrev Frag := PySem.W.Frag
def ca (K : Frag) (c : String) : Addr := He.ga K (Str.ofString c)
def tyNames : List String := ["NoneType", "bool", "int", "str", "tuple", "list", "dict"]
def kitB (K : Frag) (cs : List String) : Bool :=
  cs.all fun c => (He.Fa.cls (Str.ofString c)).ok K
    && (decide (PySem.W.findIn K (.ref (ca K c)) "__class__" = some (some (.builtin "object.__class__")))
    && (decide (PySem.W.specialIn K (.builtin "object.__class__") "__get__" = some (some (.builtin "getset_descriptor.__get__")))
    && (decide (PySem.W.takesIn K (.builtin "object.__class__") = some true)
    && (decide (PySem.W.mroIn K (ca K c) (.type "object") = some true)
    && (cs.all (fun d => decide (PySem.W.kitOne K (.ref (ca K c)) (.ref (ca K d)) = some (decide (c = d))))
    && tyNames.all fun T => decide (PySem.W.kitOne K (.ref (ca K c)) (.type T) = some false) && decide (PySem.W.kitOne K (.type T) (.ref (ca K c)) = some false))))))
def notList (o : Obj) : Bool := match o.cls with
  | .type c => !(decide (c = "list"))
  | _ => true
def noL (K : Frag) : Bool := K.all fun q => notList q.2
def attB (cs : List String) (f : String) (K : Frag) : Bool := cs.all fun c => (Fa.cls (Str.ofString c)).ok K && (Fa.noat (Str.ofString c) (Str.ofString f)).ok K
def kitC (cs : List String) (K : Frag) : Bool := kitB K cs
def tabB (x : String) (tab : List (String × Int)) (K : Frag) : Bool := He.valsB K (He.ga K (Str.ofString x)) (tab.map fun q => (Str.ofString q.1, He.Dv.int q.2))
def tabT (x : String) (tab : List (String × Int)) : Tab := (fun K => He.ga K (Str.ofString x), tab.map fun q => Str.ofString q.1)
def fnWx (K : Frag) (p : Str × Option Str) : FnW := match K.lookup (He.fAd K p) with
  | some ⟨_, _, .func fd, _⟩ => some (fd.name, fd.qualname, fd.params, fd.body, fd.scope, fd.globals, [], fd.builtins)
  | _ => none
def cloB (file : Str) (c : String) (q : Str) (K : Frag) : Bool := match K.lookup (He.ma K (ca K c) "__init__") with
  | some ⟨_, _, .func fd, _⟩ => (match fd.code, fd.closure with
    | .ref cda, [(y, cc)] => decide (y = ("__class__" : Str)) && (decide (fd.defaults = .none) && (PySem.W.codeIn K (.ref cda) q &&
      ((match K.lookup cc with | some ⟨_, _, .cell (some (.ref D)), _⟩ => decide (D = ca K c) | _ => false) &&
        (match K.lookup cda with | some ⟨_, _, .fields vs, _⟩ => (match (vs[2]? : Option Value) with | some (.str z _) => decide (z = file) | _ => false) | _ => false))))
    | _, _ => false)
  | _ => false
def oexB (c : String) (K : Frag) : Bool := match K.lookup (ca K c) with
  | some ⟨.type "type", _, .cls cd, sl⟩ => (match cd.mro, sl.toList with
    | .ref C' :: bm, [_, _, _, _, some (.builtin n), _] => decide (C' = ca K c) && (decide (n = "ValueError.__new__") && (cd.hasDict && (!cd.hasDel && PySem.HandSPX.refsVE bm)))
    | _, _ => false)
  | _ => false
def errB (file : Str) (c : String) (q : Str) (fs : List String) (K : Frag) : Bool := cloB file c q K && (oexB c K &&
  (decide (PySem.W.findIn K (.ref (ca K c)) "__setattr__" = some (some (.builtin "object.__setattr__"))) && (decide (PySem.W.subIn K (.ref (ca K c)) (.type "BaseException") = some true) &&
  (decide (PySem.W.typeIn K (.ref (ca K c)) = some (.type "type")) && (PySem.W.keepIn K (.ref (ca K c)) &&
  (decide (PySem.W.ks_superIn K (ca K c) (ca K c) "__init__" = some (some (.builtin "ValueError.__init__"))) && (decide (PySem.W.subIn K (.ref (ca K c)) (.type "ValueError") = some true) &&
  (decide (PySem.W.mroIn K (ca K c) (.ref (ca K c)) = some true) && (decide (PySem.W.nsIn K cStatics "thirdparty.any" = some none) &&
  (decide (PySem.W.findIn K (.ref (ca K c)) "__init__" = some (some (.ref (He.ma K (ca K c) "__init__")))) && (decide (PySem.W.typeIn K (.ref (He.ma K (ca K c) "__init__")) = some (.type "function")) &&
  fs.all fun f => decide (PySem.W.findIn K (.ref (ca K c)) (Str.ofString f) = some none))))))))))))
def xcU (K : Frag) (t : String) : Value := if t = "ValueError" then .type "ValueError" else .ref (ca K t)
def ersB (es all fl : List String) (K : Frag) : Bool := es.all fun c =>
  (PySem.W.clsIn K (ca K c)).isSome && (decide (PySem.W.findIn K (.ref (ca K c)) "__getattribute__" = some (some (.builtin "BaseException.__getattribute__"))) && (decide (PySem.W.findIn K (.ref (ca K c)) "__getattr__" = some none) &&
  (decide (PySem.W.subIn K (.ref (ca K c)) (.type "BaseException") = some true) && (decide (PySem.W.findIn K (.ref (ca K c)) "__class__" = some (some (.builtin "object.__class__"))) &&
  (decide (PySem.W.specialIn K (.builtin "object.__class__") "__get__" = some (some (.builtin "getset_descriptor.__get__"))) && (decide (PySem.W.takesIn K (.builtin "object.__class__") = some true) && (decide (PySem.W.mroIn K (ca K c) (.type "object") = some true) &&
  (PySem.W.hasDictIn K (ca K c) && (decide (PySem.W.exmOne K (.ref (ca K c)) (.ref (ca K "CarryError")) = some true) &&
  ((all.all fun t => decide (PySem.W.kitOne K (.ref (ca K c)) (xcU K t) = some (xisa c [t]))) && fl.all fun f => decide (PySem.W.findIn K (.ref (ca K c)) (Str.ofString f) = some none)))))))))))
def exB (es : List String) (x : String) (K : Frag) : Bool := es.all fun c => decide (PySem.W.exmOne K (.ref (ca K c)) (.ref (ca K x)) = some (decide (c = x)))
abbrev AlY : Type := AlT × Bool × List FnW
def obsY (more : Frag → Bool) (fa : List Fa) (fn xf : List DefD) (ts : List Tab) (K : Frag) : AlY := (obsT fa fn ts K, more K, xf.map fun d => fnWx K d.at_)
def valY (fn xf : List DefD) (ts : List Tab) (w : World) : AlY := (valT fn ts w, true, xf.map DefD.val)
def frcN {α : Type} (n : Nat) (k : Nat → α) : α := match n with
  | 0 => k 0
  | m + 1 => k (m + 1)
def visE {α : Type} (k : Nat → List Addr → α) : List Addr → Nat → List Addr → α
  | [], m, acc => k m acc
  | b :: r, m, acc => frcN b fun b => match Nat.land (Nat.shiftRight m b) 1 with
    | 0 => frcN (Nat.lor m (Nat.shiftLeft 1 b)) fun m2 => visE k r m2 (b :: acc)
    | _ + 1 => visE k r m acc
def levE {α : Type} (g : Addr → Option Obj) (k : Nat → List Addr → α) : List Addr → Nat → List Addr → α
  | [], m, acc => k m acc
  | a :: r, m, acc => match g a with
    | some o => visE (fun m acc => levE g k r m acc) (refsD o) m acc
    | none => levE g k r m acc
def bfsE (g : Addr → Option Obj) : Nat → List Addr → Nat → List Addr → List Addr
  | 0, fr, _, all => all ++ fr
  | n + 1, fr, m, all => levE g (fun m new => bfsE g n new.reverse m (all ++ fr)) fr m []
def asE (g : Addr → Option Obj) (n : Nat) : List Addr := bfsE g n [mainGlobals] (Nat.shiftLeft 1 mainGlobals) []
def obsYG (n : Nat) (more : Frag → Bool) (fa : List Fa) (fn xf : List DefD) (ts : List Tab) (g : Addr → Option Obj) : AlY := obsY more fa fn xf ts (frG g (cStatics :: asE g n))
def hookY (n : Nat) (more : Frag → Bool) (fa : List Fa) (fn xf : List DefD) (ts : List Tab) : PySem.W.Hook where
  α := AlY
  obs := fun s => obsYG n more fa fn xf ts s.heap.get?
  val := fun w => valY fn xf ts w
  says := fun w h => ∃ K : PySem.W.Frag, K.In h ∧ SaysT fa fn ts w K ∧ more K = true ∧ (xf.map fun d => fnWx K d.at_) = xf.map DefD.val
  of := fun w s e => by
    have e1 : obsY more fa fn xf ts (frG s.heap.get? (cStatics :: asE s.heap.get? n)) = valY fn xf ts w := e
    unfold obsY valY at e1
    obtain ⟨e2, e3⟩ := Prod.mk.inj e1
    obtain ⟨e4, e5⟩ := Prod.mk.inj e3
    exact ⟨_, frG_in, e2, e4, e5⟩
  keeps := fun _ _ _ ⟨K, hK, c, m⟩ k => ⟨K, PySem.W.Frag.In.keeps hK k, c, m⟩
end Py
namespace Py
open PySem PySem.Spec PyProof.Rows L2
abbrev CS : List String := ["Row", "Machine"]
abbrev ES : List String := ["InvalidNumber", "InvalidWords", "InvalidReading", "InvalidMachine", "InvalidRow", "InvalidText"]
abbrev EALL : List String := ["InvalidNumber", "InvalidWords", "InvalidReading", "InvalidMachine", "InvalidRow", "InvalidText", "CarryError", "ValueError"]
abbrev EFL : List String := ["at", "part", "place", "text", "value"]
def tab_SIZES : List (String × Int) := [("zero", 0), ("ones", 0), ("not", 1), ("and", 2), ("or", 2), ("xor", 2), ("shift", 1), ("minus", 1), ("add", 2), ("sub", 2)]
def top (i : Nat) : Stmt := PySem.Challenge.pw_onlycarries_k68_faults_of_texts_read.main.body.getD i (.Pass ⟨0, 0, 0, 0⟩)
abbrev st__law_pick : Stmt := top 48
abbrev sc__law_pick : Scope := defScope st__law_pick
abbrev N__law_pick : List Str := ["pool", "many", "digit", "cell"]
abbrev d__law_pick : He.DefD := ⟨("_law_pick", none), "_law_pick", "_law_pick", defArgs st__law_pick, defBody st__law_pick, sc__law_pick, [], []⟩
abbrev st__law_word : Stmt := top 51
abbrev sc__law_word : Scope := defScope st__law_word
abbrev N__law_word : List Str := ["pool", "word", "menu", "turn", "sign"]
abbrev d__law_word : He.DefD := ⟨("_law_word", none), "_law_word", "_law_word", defArgs st__law_word, defBody st__law_word, sc__law_word, [], []⟩
abbrev st__law_line : Stmt := top 52
abbrev sc__law_line : Scope := defScope st__law_line
abbrev N__law_line : List Str := ["pool", "line", "words", "place", "turn"]
abbrev d__law_line : He.DefD := ⟨("_law_line", none), "_law_line", "_law_line", defArgs st__law_line, defBody st__law_line, sc__law_line, [], []⟩
abbrev st__law_changed : Stmt := top 53
abbrev sc__law_changed : Scope := defScope st__law_changed
abbrev N__law_changed : List Str := ["pool", "text", "turn", "place", "lines", "spot", "other", "kept", "menu"]
abbrev d__law_changed : He.DefD := ⟨("_law_changed", none), "_law_changed", "_law_changed", defArgs st__law_changed, defBody st__law_changed, sc__law_changed, [], []⟩
abbrev st__law_deed_line : Stmt := top 49
abbrev sc__law_deed_line : Scope := defScope st__law_deed_line
abbrev N__law_deed_line : List Str := ["pool", "values", "names", "name", "numbers", "prime", "k", "number"]
abbrev d__law_deed_line : He.DefD := ⟨("_law_deed_line", none), "_law_deed_line", "_law_deed_line", defArgs st__law_deed_line, defBody st__law_deed_line, sc__law_deed_line, [], []⟩
abbrev st__law_lines : Stmt := top 50
abbrev sc__law_lines : Scope := defScope st__law_lines
abbrev N__law_lines : List Str := ["pool", "inputs", "large", "many", "lines", "k", "state", "words", "letter"]
abbrev d__law_lines : He.DefD := ⟨("_law_lines", none), "_law_lines", "_law_lines", defArgs st__law_lines, defBody st__law_lines, sc__law_lines, [], []⟩
abbrev st__law_number : Stmt := top 54
abbrev sc__law_number : Scope := defScope st__law_number
abbrev N__law_number : List Str := ["word", "sign"]
abbrev d__law_number : He.DefD := ⟨("_law_number", none), "_law_number", "_law_number", defArgs st__law_number, defBody st__law_number, sc__law_number, [], []⟩
abbrev st__law_numbers : Stmt := top 55
abbrev sc__law_numbers : Scope := defScope st__law_numbers
abbrev N__law_numbers : List Str := ["words", "numbers", "word"]
abbrev d__law_numbers : He.DefD := ⟨("_law_numbers", none), "_law_numbers", "_law_numbers", defArgs st__law_numbers, defBody st__law_numbers, sc__law_numbers, [], []⟩
abbrev st__law_deed : Stmt := top 57
abbrev sc__law_deed : Scope := defScope st__law_deed
abbrev N__law_deed : List Str := ["line", "values", "words", "numbers", "parts", "need", "value"]
abbrev d__law_deed : He.DefD := ⟨("_law_deed", none), "_law_deed", "_law_deed", defArgs st__law_deed, defBody st__law_deed, sc__law_deed, [], []⟩
abbrev st__law_head : Stmt := top 58
abbrev sc__law_head : Scope := defScope st__law_head
abbrev N__law_head : List Str := ["line", "name", "words", "numbers"]
abbrev d__law_head : He.DefD := ⟨("_law_head", none), "_law_head", "_law_head", defArgs st__law_head, defBody st__law_head, sc__law_head, [], []⟩
abbrev st__law_state : Stmt := top 56
abbrev sc__law_state : Scope := defScope st__law_state
abbrev N__law_state : List Str := ["line", "inputs", "many", "numbers", "leads", "bits"]
abbrev d__law_state : He.DefD := ⟨("_law_state", none), "_law_state", "_law_state", defArgs st__law_state, defBody st__law_state, sc__law_state, [], []⟩
abbrev st__law_read : Stmt := top 59
abbrev sc__law_read : Scope := defScope st__law_read
abbrev N__law_read : List Str := ["text", "name", "lines", "head", "at", "found", "k", "told"]
abbrev d__law_read : He.DefD := ⟨("_law_read", none), "_law_read", "_law_read", defArgs st__law_read, defBody st__law_read, sc__law_read, [], []⟩
abbrev st_is_integer : Stmt := top 2
abbrev sc_is_integer : Scope := defScope st_is_integer
abbrev N_is_integer : List Str := ["value"]
abbrev d_is_integer : He.DefD := ⟨("is_integer", none), "is_integer", "is_integer", defArgs st_is_integer, defBody st_is_integer, sc_is_integer, [], []⟩
abbrev st_is_inputs : Stmt := top 4
abbrev sc_is_inputs : Scope := defScope st_is_inputs
abbrev N_is_inputs : List Str := ["value"]
abbrev d_is_inputs : He.DefD := ⟨("is_inputs", none), "is_inputs", "is_inputs", defArgs st_is_inputs, defBody st_is_inputs, sc_is_inputs, [], []⟩
abbrev st_as_tuple : Stmt := top 5
abbrev sc_as_tuple : Scope := defScope st_as_tuple
abbrev N_as_tuple : List Str := ["value"]
abbrev d_as_tuple : He.DefD := ⟨("as_tuple", none), "as_tuple", "as_tuple", defArgs st_as_tuple, defBody st_as_tuple, sc_as_tuple, [], []⟩
abbrev st_is_below : Stmt := top 6
abbrev sc_is_below : Scope := defScope st_is_below
abbrev N_is_below : List Str := ["value", "limit"]
abbrev d_is_below : He.DefD := ⟨("is_below", none), "is_below", "is_below", defArgs st_is_below, defBody st_is_below, sc_is_below, [], []⟩
abbrev st_is_line : Stmt := top 37
abbrev sc_is_line : Scope := defScope st_is_line
abbrev N_is_line : List Str := ["value", "many", "limit", "member"]
abbrev d_is_line : He.DefD := ⟨("is_line", none), "is_line", "is_line", defArgs st_is_line, defBody st_is_line, sc_is_line, [], []⟩
abbrev st_right_nexts : Stmt := top 38
abbrev sc_right_nexts : Scope := defScope st_right_nexts
abbrev N_right_nexts : List Str := ["value", "letters", "lines", "state", "line"]
abbrev d_right_nexts : He.DefD := ⟨("right_nexts", none), "right_nexts", "right_nexts", defArgs st_right_nexts, defBody st_right_nexts, sc_right_nexts, [], []⟩
abbrev st_right_outs : Stmt := top 39
abbrev sc_right_outs : Scope := defScope st_right_outs
abbrev N_right_outs : List Str := ["value", "letters", "states", "lines", "shared", "state"]
abbrev d_right_outs : He.DefD := ⟨("right_outs", none), "right_outs", "right_outs", defArgs st_right_outs, defBody st_right_outs, sc_right_outs, [], []⟩
abbrev st_Machine_init : Stmt := inClass (top 40) 0
abbrev sc_Machine_init : Scope := defScope st_Machine_init
abbrev N_Machine_init : List Str := ["self", "inputs", "nexts", "outs", "letters"]
abbrev d_Machine_init : He.DefD := ⟨("Machine", some "__init__"), "__init__", "Machine.__init__", defArgs st_Machine_init, defBody st_Machine_init, sc_Machine_init, [], []⟩
abbrev st_plain_number : Stmt := top 28
abbrev sc_plain_number : Scope := defScope st_plain_number
abbrev N_plain_number : List Str := ["word", "figures", "sign"]
abbrev d_plain_number : He.DefD := ⟨("plain_number", none), "plain_number", "plain_number", defArgs st_plain_number, defBody st_plain_number, sc_plain_number, [], []⟩
abbrev st_line_numbers : Stmt := top 42
abbrev sc_line_numbers : Scope := defScope st_line_numbers
abbrev N_line_numbers : List Str := ["words", "numbers", "word"]
abbrev d_line_numbers : He.DefD := ⟨("line_numbers", none), "line_numbers", "line_numbers", defArgs st_line_numbers, defBody st_line_numbers, sc_line_numbers, [], []⟩
abbrev st_head_numbers : Stmt := top 43
abbrev sc_head_numbers : Scope := defScope st_head_numbers
abbrev N_head_numbers : List Str := ["line", "name", "many", "words", "numbers"]
abbrev d_head_numbers : He.DefD := ⟨("head_numbers", none), "head_numbers", "head_numbers", defArgs st_head_numbers, defBody st_head_numbers, sc_head_numbers, [], []⟩
abbrev st_state_parts : Stmt := top 44
abbrev sc_state_parts : Scope := defScope st_state_parts
abbrev N_state_parts : List Str := ["line", "inputs", "states", "numbers", "nexts", "outs"]
abbrev d_state_parts : He.DefD := ⟨("state_parts", none), "state_parts", "state_parts", defArgs st_state_parts, defBody st_state_parts, sc_state_parts, [], []⟩
abbrev st_read_machine : Stmt := top 45
abbrev sc_read_machine : Scope := defScope st_read_machine
abbrev N_read_machine : List Str := ["text", "lines", "head", "nexts", "outs", "place", "at", "line", "parts"]
abbrev d_read_machine : He.DefD := ⟨("read_machine", none), "read_machine", "read_machine", defArgs st_read_machine, defBody st_read_machine, sc_read_machine, [], []⟩
abbrev st_are_values : Stmt := top 19
abbrev sc_are_values : Scope := defScope st_are_values
abbrev N_are_values : List Str := ["numbers", "many", "number"]
abbrev d_are_values : He.DefD := ⟨("are_values", none), "are_values", "are_values", defArgs st_are_values, defBody st_are_values, sc_are_values, [], []⟩
abbrev st_is_count_deed : Stmt := top 20
abbrev sc_is_count_deed : Scope := defScope st_is_count_deed
abbrev N_is_count_deed : List Str := ["value", "many", "modulus", "rest", "parts"]
abbrev d_is_count_deed : He.DefD := ⟨("is_count_deed", none), "is_count_deed", "is_count_deed", defArgs st_is_count_deed, defBody st_is_count_deed, sc_is_count_deed, [], []⟩
abbrev st_is_deed : Stmt := top 21
abbrev sc_is_deed : Scope := defScope st_is_deed
abbrev N_is_deed : List Str := ["value", "many"]
abbrev d_is_deed : He.DefD := ⟨("is_deed", none), "is_deed", "is_deed", defArgs st_is_deed, defBody st_is_deed, sc_is_deed, [], []⟩
abbrev st_Row_init : Stmt := inClass (top 24) 0
abbrev sc_Row_init : Scope := defScope st_Row_init
abbrev N_Row_init : List Str := ["self", "inputs", "deeds", "out", "kept", "place", "deed"]
abbrev d_Row_init : He.DefD := ⟨("Row", some "__init__"), "__init__", "Row.__init__", defArgs st_Row_init, defBody st_Row_init, sc_Row_init, [], []⟩
abbrev st_told_deed : Stmt := top 32
abbrev sc_told_deed : Scope := defScope st_told_deed
abbrev N_told_deed : List Str := ["words", "numbers", "word"]
abbrev d_told_deed : He.DefD := ⟨("told_deed", none), "told_deed", "told_deed", defArgs st_told_deed, defBody st_told_deed, sc_told_deed, [], []⟩
abbrev st_number_below : Stmt := top 29
abbrev sc_number_below : Scope := defScope st_number_below
abbrev N_number_below : List Str := ["word", "limit", "number"]
abbrev d_number_below : He.DefD := ⟨("number_below", none), "number_below", "number_below", defArgs st_number_below, defBody st_number_below, sc_number_below, [], []⟩
abbrev st_wrong_count : Stmt := top 30
abbrev sc_wrong_count : Scope := defScope st_wrong_count
abbrev N_wrong_count : List Str := ["words", "many", "at"]
abbrev d_wrong_count : He.DefD := ⟨("wrong_count", none), "wrong_count", "wrong_count", defArgs st_wrong_count, defBody st_wrong_count, sc_wrong_count, [], []⟩
abbrev st_wrong_word : Stmt := top 31
abbrev sc_wrong_word : Scope := defScope st_wrong_word
abbrev N_wrong_word : List Str := ["words", "many", "size", "at"]
abbrev d_wrong_word : He.DefD := ⟨("wrong_word", none), "wrong_word", "wrong_word", defArgs st_wrong_word, defBody st_wrong_word, sc_wrong_word, [], []⟩
abbrev st_read_row : Stmt := top 46
abbrev sc_read_row : Scope := defScope st_read_row
abbrev N_read_row : List Str := ["text", "lines", "head", "deeds", "place", "at", "line", "words"]
abbrev d_read_row : He.DefD := ⟨("read_row", none), "read_row", "read_row", defArgs st_read_row, defBody st_read_row, sc_read_row, [], []⟩
abbrev st__law_refused : Stmt := top 61
abbrev sc__law_refused : Scope := defScope st__law_refused
abbrev N__law_refused : List Str := ["name", "text", "at", "e"]
abbrev d__law_refused : He.DefD := ⟨("_law_refused", none), "_law_refused", "_law_refused", defArgs st__law_refused, defBody st__law_refused, sc__law_refused, [], []⟩
abbrev st__law_same : Stmt := top 60
abbrev sc__law_same : Scope := defScope st__law_same
abbrev N__law_same : List Str := ["one", "other", "k"]
abbrev d__law_same : He.DefD := ⟨("_law_same", none), "_law_same", "_law_same", defArgs st__law_same, defBody st__law_same, sc__law_same, [], []⟩
abbrev st__law_told : Stmt := top 62
abbrev sc__law_told : Scope := defScope st__law_told
abbrev N__law_told : List Str := ["name", "text", "due", "row", "machine", "pair"]
abbrev d__law_told : He.DefD := ⟨("_law_told", none), "_law_told", "_law_told", defArgs st__law_told, defBody st__law_told, sc__law_told, [], []⟩
abbrev st__law_ask : Stmt := top 63
abbrev sc__law_ask : Scope := defScope st__law_ask
abbrev N__law_ask : List Str := ["pool", "turn", "text", "k", "name"]
abbrev d__law_ask : He.DefD := ⟨("_law_ask", none), "_law_ask", "_law_ask", defArgs st__law_ask, defBody st__law_ask, sc__law_ask, [], []⟩
abbrev st_law : Stmt := top 64
abbrev sc_law : Scope := defScope st_law
abbrev N_law : List Str := ["script", "pool", "cell"]
abbrev d_law : He.DefD := ⟨("law", none), "law", "law", defArgs st_law, defBody st_law, sc_law, [], []⟩
abbrev st_InvalidText_init : Stmt := inClass (top 16) 0
abbrev sc_InvalidText_init : Scope := defScope st_InvalidText_init
abbrev N_InvalidText_init : List Str := ["self", "text", "at", "__class__"]
abbrev d_InvalidText_init : He.DefD := ⟨("InvalidText", some "__init__"), "__init__", "InvalidText.__init__", defArgs st_InvalidText_init, defBody st_InvalidText_init, sc_InvalidText_init, [], []⟩
abbrev st_InvalidMachine_init : Stmt := inClass (top 14) 0
abbrev sc_InvalidMachine_init : Scope := defScope st_InvalidMachine_init
abbrev N_InvalidMachine_init : List Str := ["self", "part", "place", "__class__"]
abbrev d_InvalidMachine_init : He.DefD := ⟨("InvalidMachine", some "__init__"), "__init__", "InvalidMachine.__init__", defArgs st_InvalidMachine_init, defBody st_InvalidMachine_init, sc_InvalidMachine_init, [], []⟩
abbrev st_InvalidRow_init : Stmt := inClass (top 15) 0
abbrev sc_InvalidRow_init : Scope := defScope st_InvalidRow_init
abbrev N_InvalidRow_init : List Str := ["self", "part", "place", "__class__"]
abbrev d_InvalidRow_init : He.DefD := ⟨("InvalidRow", some "__init__"), "__init__", "InvalidRow.__init__", defArgs st_InvalidRow_init, defBody st_InvalidRow_init, sc_InvalidRow_init, [], []⟩
abbrev FILE : Str := "/claim/cut.py"
abbrev xfs : List He.DefD := [d_InvalidText_init, d_InvalidMachine_init, d_InvalidRow_init]
abbrev fa : List He.Fa := [.free "int", .free "range", .free "len", .free "str", .free "isinstance", .glo "Row", .free "tuple", .glo "Machine", .free "max", .glo "CarryError", .free "bool", .glo "InvalidText", .free "enumerate", .free "list", .free "all", .free "min", .int "MOST_FIGURES" 6, .str "FIGURES" "0123456789", .glo "SIZES", .glo "_law_pick", .glo "_law_word", .glo "_law_line", .glo "_law_changed", .glo "_law_deed_line", .glo "_law_lines", .glo "_law_number", .glo "_law_numbers", .glo "_law_deed", .glo "_law_head", .glo "_law_state", .glo "_law_read", .glo "is_integer", .glo "is_inputs", .glo "as_tuple", .glo "is_below", .glo "is_line", .glo "right_nexts", .glo "right_outs", .mkr "Machine", .glo "plain_number", .glo "line_numbers", .glo "head_numbers", .glo "state_parts", .glo "read_machine", .glo "are_values", .glo "is_count_deed", .glo "is_deed", .mkr "Row", .glo "told_deed", .glo "number_below", .glo "wrong_count", .glo "wrong_word", .glo "read_row", .glo "_law_refused", .glo "_law_same", .glo "_law_told", .glo "_law_ask", .glo "law", .free "super", .glo "InvalidMachine", .glo "InvalidRow"]
abbrev fns : List He.DefD := [d__law_pick, d__law_word, d__law_line, d__law_changed, d__law_deed_line, d__law_lines, d__law_number, d__law_numbers, d__law_deed, d__law_head, d__law_state, d__law_read, d_is_integer, d_is_inputs, d_as_tuple, d_is_below, d_is_line, d_right_nexts, d_right_outs, d_Machine_init, d_plain_number, d_line_numbers, d_head_numbers, d_state_parts, d_read_machine, d_are_values, d_is_count_deed, d_is_deed, d_Row_init, d_told_deed, d_number_below, d_wrong_count, d_wrong_word, d_read_row, d__law_refused, d__law_same, d__law_told, d__law_ask, d_law]
abbrev tbs : List He.Tab := [tabT "SIZES" tab_SIZES]
abbrev mss : List (Frag → Bool) := [kitC CS, attB ["Row", "Machine"] "inputs", attB ["Row"] "out", attB ["Row"] "deeds", attB ["Machine"] "nexts", attB ["Machine"] "outs", ersB ES EALL EFL, exB ES "InvalidText", attB ["Machine"] "inputs", attB ["Row"] "inputs", tabB "SIZES" tab_SIZES, errB FILE "InvalidText" "InvalidText.__init__" ["text", "at"], errB FILE "InvalidMachine" "InvalidMachine.__init__" ["part", "place"], errB FILE "InvalidRow" "InvalidRow.__init__" ["part", "place"]]
abbrev lo0 : List Str := ["_wall", "is_integer", "is_number", "is_inputs", "as_tuple", "is_below", "is_word", "are_words", "CarryError", "InvalidNumber", "InvalidWords", "InvalidReading", "InvalidMachine", "InvalidRow", "InvalidText", "SIZES", "are_values", "is_count_deed", "is_deed", "counted_word", "deed_word", "Row", "FIGURES", "MOST_FIGURES", "plain_number", "number_below", "wrong_count", "wrong_word", "told_deed", "is_reading"]
abbrev lo1 : List Str := ["letters_of", "is_line", "right_nexts", "right_outs", "Machine", "line_numbers", "head_numbers", "state_parts", "read_machine", "read_row", "_law_pick", "_law_deed_line", "_law_lines", "_law_word", "_law_line", "_law_changed", "_law_number", "_law_numbers", "_law_state", "_law_deed", "_law_head", "_law_read", "_law_same", "_law_refused", "_law_told", "_law_ask"]
abbrev lo : List Str := lo0 ++ lo1
abbrev R : PySem.W.OpenRow := PySem.W.OpenLaw.row PySem.Challenge.rw_onlycarries_k68_faults_of_texts_read
abbrev hkY : PySem.W.Hook := hookY 5 (fun K => noL K && mss.all fun m => m K) fa fns xfs tbs
def ob (s : PySem.W.SharedT) : AlY := obsYG 5 (fun K => noL K && mss.all fun m => m K) fa fns xfs tbs (HandSHeadRun.getT s)
end Py
namespace Py
open PySem PySem.Spec PyProof.Rows L2
theorem run0 (w : World) : HandSHeadRun.RunEq R (PySem.W.view R.prog [64]) hkY ob 8000 lo (w.withFollow "special-get-raises" false) := by
  intro os
  kernel_rfl
theorem run1 (w : World) : HandSHeadRun.RunEq R (PySem.W.view R.prog [64]) hkY ob 8000 lo (w.withFollow "special-get-raises" true) := by
  intro os
  kernel_rfl
theorem run (w : World) : HandSHeadRun.RunEq R (PySem.W.view R.prog [64]) hkY ob 8000 lo w := PySem.W.byRow2 "special-get-raises" run0 run1 w
end Py
/-! More of what is computed. -/
/-! Draws: a pool that a def changes, what is drawn of it. -/
namespace Py
open PySem L2
/-- a value given back, and what the first name's own list holds then -/
def retB (m : EM) : SM := fun e => m e >>= fun d => var 0 e >>= fun l => .ok (.ret (.tup [d, l]))
def oidxC (x y : D) : Res D := match x with | .drw (.inr q) => oidx (.lst (q.2.map .int)) y | _ => .stuck
def blenC (x : D) : Res D := match x with | .drw (.inr q) => blen (.lst (q.2.map .int)) | _ => .stuck
/-- what a pool holds -/
def DV (k : Bool) (a0 : Nat) (xs : List Int) : List D → Prop := fun ds => match k with
  | false => ∃ p c m : Int, ds = [.drw (.inr (a0, xs)), .int p, .int c, .int m] ∧ 0 ≤ p ∧ 0 ≤ m ∧ m < 2147483647
  | true => ∃ p c j m : Int, ds = [.drw (.inr (a0, xs)), .int p, .int c, .int j, .int m] ∧ 0 ≤ p ∧ 0 ≤ m ∧ m < 2147483647
/-- some number below n -/
def pickF (k : Bool) : List D → Res D
  | [.drw (.inl q), .int n] => if q = k ∧ 0 < n ∧ n < 1073741824 then .pick (n - 1).toNat fun i => .ok (.int i) else .stuck
  | _ => .stuck
/-- the body of a def that draws -/
def Draws (k : Bool) (n : Nat) (b : SM) : Prop := ∀ (a0 : Nat) (xs : List Int) (ds : List D) (many : Int), DV k a0 xs ds → 0 < many → many < 1073741824 →
  ∃ r ds', b ([some (.lst ds), some (.int many)] ++ List.replicate (n - 2) none) = .ok (.ret (.tup [.int r, .lst ds'])) ∧ 0 ≤ r ∧ r < many ∧ DV k a0 xs ds'
def allI : List D → Option (List Int)
  | [] => some []
  | .int i :: r => (allI r).map (i :: ·)
  | _ => none
/-- a new pool -/
def mkpF : D → Res D
  | .lst [.lst xs, .int p, .int _, .int u] => if (allI xs).isSome ∧ 0 ≤ p ∧ 0 ≤ u ∧ u < 2147483647 then .ok (.drw (.inl false)) else .stuck
  | .lst [.lst xs, .int p, .int _, .int _, .int u] => if (allI xs).isSome ∧ 0 ≤ p ∧ 0 ≤ u ∧ u < 2147483647 then .ok (.drw (.inl true)) else .stuck
  | _ => .stuck
def mkp (m : EM) : EM := fun e => m e >>= mkpF
theorem mkpF_inv (d : D) : mkpF d = .stuck ∨ (∃ xs p c u, d = .lst [.lst xs, .int p, .int c, .int u] ∧ ((allI xs).isSome ∧ 0 ≤ p ∧ 0 ≤ u ∧ u < 2147483647) ∧ mkpF d = .ok (.drw (.inl false))) ∨
    ∃ xs p c j u, d = .lst [.lst xs, .int p, .int c, .int j, .int u] ∧ ((allI xs).isSome ∧ 0 ≤ p ∧ 0 ≤ u ∧ u < 2147483647) ∧ mkpF d = .ok (.drw (.inl true)) := by
  unfold mkpF
  split
  · rename_i xs p c u
    by_cases h : (allI xs).isSome ∧ 0 ≤ p ∧ 0 ≤ u ∧ u < 2147483647
    · exact .inr (.inl ⟨xs, p, c, u, rfl, h, if_pos h⟩)
    · exact .inl (if_neg h)
  · rename_i xs p c j u
    by_cases h : (allI xs).isSome ∧ 0 ≤ p ∧ 0 ≤ u ∧ u < 2147483647
    · exact .inr (.inr ⟨xs, p, c, j, u, rfl, h, if_pos h⟩)
    · exact .inl (if_neg h)
  · exact .inl rfl
/-- whatever is drawn: it comes to an end, and P holds of it -/
def Always {α : Type} (P : α → Prop) : Res α → Prop
  | .ok a => P a
  | .pick n k => ∀ i, i ≤ n → Always P (k i)
  | .exc _ _ => False
  | .stuck => False
end Py
/-! How the mirrors are computed: equations, loops, comprehensions. -/
namespace Py
open PySem
/-! ### equations -/
theorem var_eq {i : Nat} {e : Env} {d : D} (h : e[i]? = some (some d)) : var i e = .ok d := by
  unfold var
  rw [h]
@[simp] theorem cst_eq (d : D) (e : Env) : cst d e = .ok d := rfl
@[simp] theorem un_eq (f : D → Res D) (a : EM) (e : Env) : un f a e = (a e >>= f) := rfl
@[simp] theorem bin_eq (f : D → D → Res D) (a b : EM) (e : Env) : bin f a b e = (a e >>= fun x => b e >>= fun y => f x y) := rfl
@[simp] theorem argN_eq (e : Env) : argN e = .ok [] := rfl
@[simp] theorem argC_eq (a : EM) (r : AM) (e : Env) : argC a r e = (a e >>= fun x => r e >>= fun xs => .ok (x :: xs)) := rfl
@[simp] theorem call_eq (f : List D → Res D) (a : AM) (e : Env) : call f a e = (a e >>= f) := rfl
@[simp] theorem tst_eq (a : EM) (e : Env) : tst a e = (a e >>= truthy) := rfl
@[simp] theorem andT_eq (a b : TM) (e : Env) : andT a b e = (a e >>= fun x => if x then b e else .ok false) := rfl
@[simp] theorem orT_eq (a b : TM) (e : Env) : orT a b e = (a e >>= fun x => if x then .ok true else b e) := rfl
@[simp] theorem notT_eq (a : TM) (e : Env) : notT a e = (a e >>= fun x => .ok (!x)) := rfl
@[simp] theorem ifE_eq (t : TM) (a b : EM) (e : Env) : ifE t a b e = (t e >>= fun x => if x then a e else b e) := rfl
@[simp] theorem ite_eq (t : TM) (a b : SM) (e : Env) : ite t a b e = (t e >>= fun x => if x then a e else b e) := rfl
@[simp] theorem skip_eq (e : Env) : skip e = .ok (.next e) := rfl
@[simp] theorem ret_eq (m : EM) (e : Env) : ret m e = (m e >>= fun d => .ok (.ret d)) := rfl
@[simp] theorem asg_eq (g : GM) (m : EM) (e : Env) : asg g m e = (m e >>= fun d => lift (g d e) >>= fun e' => .ok (.next e')) := rfl
@[simp] theorem gnm_eq (i : Nat) (d : D) (e : Env) : gnm i d e = some (e.set i (some d)) := rfl
@[simp] theorem seq_eq (a b : SM) (e : Env) : seq a b e = (a e >>= fun f => match f with | .next e' => b e' | r => .ok r) := rfl
@[simp] theorem forB_eq (g : GM) (b : SM) (x : D) (e : Env) : forB g b x e = (lift (g x e) >>= b) := rfl
@[simp] theorem drop_eq (m : EM) (e : Env) : Py.drop m e = (m e >>= fun _ => .ok (.next e)) := rfl
@[simp] theorem tupE_eq (a : AM) (e : Env) : tupE a e = (a e >>= fun xs => chk xs.length (.tup xs)) := rfl
@[simp] theorem lstE_eq (a : AM) (e : Env) : lstE a e = (a e >>= fun xs => chk xs.length (.lst xs)) := rfl
@[simp] theorem andE_eq (a b : EM) (e : Env) : andE a b e = (a e >>= fun x => match x with | .bl true => b e | .bl false => .ok (.bl false) | _ => .stuck) := rfl
@[simp] theorem orE_eq (a b : EM) (e : Env) : orE a b e = (a e >>= fun x => match x with | .bl false => b e | .bl true => .ok (.bl true) | _ => .stuck) := rfl
@[simp] theorem chain_eq (f g : D → D → Res D) (a b c : EM) (e : Env) : chain f g a b c e = (a e >>= fun x => b e >>= fun y => f x y >>= fun z => match z with
  | .bl true => c e >>= fun u => g y u
  | .bl false => .ok (.bl false)
  | _ => .stuck) := rfl
@[simp] theorem iseq_eq (a : EM) (e : Env) : iseq a e = (a e >>= fun x => match x with | .lst xs => .ok xs | .tup xs => .ok xs | _ => .stuck) := rfl
@[simp] theorem for_eq (it : IM) (g : GM) (b : SM) (e : Env) : for_ it g b e = (it e >>= fun xs => forL (forB g b) xs e) := rfl
@[simp] theorem app_eq (i : Nat) (m : EM) (e : Env) : app i m e = (var i e >>= fun l => match l with
  | .lst xs => m e >>= fun d => if xs.length < SZ then .ok (.next (e.set i (some (.lst (xs ++ [d]))))) else .stuck
  | _ => .stuck) := rfl
@[simp] theorem aug_eq (i : Nat) (f : D → D → Res D) (m : EM) (e : Env) : aug i f m e = (var i e >>= fun x => m e >>= fun y => f x y >>= fun z => .ok (.next (e.set i (some z)))) := rfl
@[simp] theorem done_next (e : Env) : done (.ok (.next e)) = .ok .non := rfl
@[simp] theorem done_ret (d : D) : done (.ok (.ret d)) = .ok d := rfl
@[simp] theorem thru_eq (m : SM) (e : Env) : thru m e = noexc (m e) := rfl
@[simp] theorem brk_eq (e : Env) : brk e = .ok (.brk e) := rfl
@[simp] theorem cnt_eq (e : Env) : cnt e = .ok (.cnt e) := rfl
@[simp] theorem retN_eq (e : Env) : retN e = .ok (.ret .non) := rfl
@[simp] theorem chk_0 {d : D} : chk 0 d = .ok d := chk_ok (by decide)
@[simp] theorem chk_1 {d : D} : chk 1 d = .ok d := chk_ok (by decide)
@[simp] theorem chk_2 {d : D} : chk 2 d = .ok d := chk_ok (by decide)
@[simp] theorem chk_3 {d : D} : chk 3 d = .ok d := chk_ok (by decide)
@[simp] theorem chk_4 {d : D} : chk 4 d = .ok d := chk_ok (by decide)
@[simp] theorem chk_5 {d : D} : chk 5 d = .ok d := chk_ok (by decide)
@[simp] theorem chk_6 {d : D} : chk 6 d = .ok d := chk_ok (by decide)
@[simp] theorem chk_7 {d : D} : chk 7 d = .ok d := chk_ok (by decide)
@[simp] theorem chk_8 {d : D} : chk 8 d = .ok d := chk_ok (by decide)
@[simp] theorem chk_9 {d : D} : chk 9 d = .ok d := chk_ok (by decide)
@[simp] theorem chk_10 {d : D} : chk 10 d = .ok d := chk_ok (by decide)
@[simp] theorem chk_11 {d : D} : chk 11 d = .ok d := chk_ok (by decide)
@[simp] theorem chk_12 {d : D} : chk 12 d = .ok d := chk_ok (by decide)
@[simp] theorem chk_13 {d : D} : chk 13 d = .ok d := chk_ok (by decide)
@[simp] theorem chk_14 {d : D} : chk 14 d = .ok d := chk_ok (by decide)
@[simp] theorem chk_15 {d : D} : chk 15 d = .ok d := chk_ok (by decide)
@[simp] theorem chk_16 {d : D} : chk 16 d = .ok d := chk_ok (by decide)
@[simp] theorem chk_17 {d : D} : chk 17 d = .ok d := chk_ok (by decide)
@[simp] theorem chk_18 {d : D} : chk 18 d = .ok d := chk_ok (by decide)
@[simp] theorem chk_19 {d : D} : chk 19 d = .ok d := chk_ok (by decide)
@[simp] theorem chk_20 {d : D} : chk 20 d = .ok d := chk_ok (by decide)
@[simp] theorem chk_21 {d : D} : chk 21 d = .ok d := chk_ok (by decide)
@[simp] theorem chk_22 {d : D} : chk 22 d = .ok d := chk_ok (by decide)
@[simp] theorem chk_23 {d : D} : chk 23 d = .ok d := chk_ok (by decide)
/-! ### calls of defs -/
theorem fn1 {n : Nat} {b : SM} {x : D} : fn 1 n b [x] = done (b (some x :: List.replicate (n - 1) none)) := if_pos rfl
theorem fn2 {n : Nat} {b : SM} {x y : D} : fn 2 n b [x, y] = done (b (some x :: some y :: List.replicate (n - 2) none)) := if_pos rfl
theorem fn3 {n : Nat} {b : SM} {x y z : D} : fn 3 n b [x, y, z] = done (b (some x :: some y :: some z :: List.replicate (n - 3) none)) := if_pos rfl
/-! ### operators on numbers -/
@[simp] theorem oadd_ii (i j : Int) : oadd (.int i) (.int j) = .ok (.int (i + j)) := rfl
@[simp] theorem osub_ii (i j : Int) : osub (.int i) (.int j) = .ok (.int (i - j)) := rfl
theorem omul_ii {i j : Int} (h : i.natAbs < B64 ∨ j.natAbs < B64) : omul (.int i) (.int j) = .ok (.int (i * j)) := if_pos h
theorem omul_l {i j : Int} (h : -18446744073709551616 < i) (h' : i < 18446744073709551616) : omul (.int i) (.int j) = .ok (.int (i * j)) := omul_ii (.inl (by unfold B64; omega))
theorem omul_r {i j : Int} (h : -18446744073709551616 < j) (h' : j < 18446744073709551616) : omul (.int i) (.int j) = .ok (.int (i * j)) := omul_ii (.inr (by unfold B64; omega))
theorem opow18 : opow (.int 10) (.int 18) = .ok (.int 1000000000000000000) := rfl
theorem omod_ii {i j : Int} (h : 0 < j) : omod (.int i) (.int j) = .ok (.int (i % j)) := if_pos h
theorem ofdiv_ii {i j : Int} (h : 0 < j ∧ j < 1073741824) : ofdiv (.int i) (.int j) = .ok (.int (i / j)) := if_pos h
theorem oshl_ii {i j : Int} (h : 0 ≤ j ∧ (Builtin.Int.intBits i : Int) + j ≤ 134217728) : oshl (.int i) (.int j) = .ok (.int (i * 2 ^ j.toNat)) := if_pos h
@[simp] theorem oand_ii (i j : Int) : oand (.int i) (.int j) = .ok (.int (Builtin.bitAnd i j)) := rfl
@[simp] theorem olt_ii (i j : Int) : olt (.int i) (.int j) = .ok (.bl (decide (i < j))) := rfl
@[simp] theorem ole_ii (i j : Int) : ole (.int i) (.int j) = .ok (.bl (decide (i ≤ j))) := rfl
@[simp] theorem ogt_ii (i j : Int) : ogt (.int i) (.int j) = .ok (.bl (decide (j < i))) := rfl
@[simp] theorem oge_ii (i j : Int) : oge (.int i) (.int j) = .ok (.bl (decide (j ≤ i))) := rfl
@[simp] theorem oneg_i (i : Int) : oneg (.int i) = .ok (.int (-i)) := rfl
@[simp] theorem oeq_ii (i j : Int) : oeq (.int i) (.int j) = .ok (.bl (i == j)) := rfl
@[simp] theorem one_ii (i j : Int) : Py.one (.int i) (.int j) = .ok (.bl (!(i == j))) := rfl
@[simp] theorem bint_i (i : Int) : bint (.int i) = .ok (.int i) := rfl
@[simp] theorem bint_b (b : Bool) : bint (.bl b) = .ok (.int (b2i b)) := rfl
@[simp] theorem truthy_b (b : Bool) : truthy (.bl b) = .ok b := rfl
@[simp] theorem truthy_i (i : Int) : truthy (.int i) = .ok (i != 0) := rfl
@[simp] theorem blen_l (xs : List D) : blen (.lst xs) = .ok (.int xs.length) := rfl
@[simp] theorem blen_t (xs : List D) : blen (.tup xs) = .ok (.int xs.length) := rfl
@[simp] theorem btuple_l (xs : List D) : btuple (.lst xs) = .ok (.tup xs) := rfl
@[simp] theorem btuple_t (xs : List D) : btuple (.tup xs) = .ok (.tup xs) := rfl
@[simp] theorem blist_l (xs : List D) : blist (.lst xs) = .ok (.lst xs) := rfl
@[simp] theorem blist_t (xs : List D) : blist (.tup xs) = .ok (.lst xs) := rfl
@[simp] theorem onb_b (b : Bool) : onb (.bl b) = .ok (.bl (!b)) := rfl
/-! ### subscripts -/
theorem ixN_nat {n k : Nat} (h : k < n) : L2.ixN n (k : Int) = some k := by
  unfold L2.ixN
  simp [h]
theorem atI_nat {α : Type} {xs : List α} {k : Nat} (h : k < xs.length) : L2.atI xs (k : Int) = some xs[k] := by
  unfold L2.atI
  rw [ixN_nat h]
  simp [h]
theorem oidx_l {xs : List D} {k : Nat} {d : D} (h : xs[k]? = some d) : oidx (.lst xs) (.int (k : Int)) = .ok d := by
  have hk : k < xs.length := by
    rcases Nat.lt_or_ge k xs.length with h1 | h1
    · exact h1
    · rw [List.getElem?_eq_none h1] at h
      cases h
  unfold oidx
  simp only [atI_nat hk, opt]
  rw [List.getElem?_eq_getElem hk] at h
  rw [Option.some.inj h]
theorem oidx_t {xs : List D} {k : Nat} {d : D} (h : xs[k]? = some d) : oidx (.tup xs) (.int (k : Int)) = .ok d := by
  have q : oidx (.tup xs) (.int (k : Int)) = oidx (.lst xs) (.int (k : Int)) := rfl
  rw [q]
  exact oidx_l h
/-! ### loops -/
theorem rng_map (n : Nat) : rngL 0 (n : Int) = (List.range n).map fun i => D.int ((i : Nat) : Int) := by
  unfold rngL
  rw [Int.sub_zero, Int.toNat_natCast]
  refine List.map_congr_left fun i _ => ?_
  rw [Int.zero_add]
theorem rng_lt {n : Nat} (h : n ≤ 1000) : n < B62 := Nat.lt_of_le_of_lt h (by decide)
theorem irng1_int {a : EM} {e : Env} {i : Int} (h : a e = .ok (.int i)) : irng1 a e = if i.natAbs < B62 then .ok (rngL 0 i) else .stuck := by
  unfold irng1
  simp only [h, bind_ok]
theorem irng1_nat {a : EM} {e : Env} {n : Nat} (h : a e = .ok (.int (n : Int))) (hn : n < B62) : irng1 a e = .ok ((List.range n).map fun i => .int ((i : Nat) : Int)) := by
  rw [← rng_map, irng1_int h]
  exact if_pos hn
theorem forL_inv {b : D → Env → Res Fl} (I : Nat → Env → Prop) : ∀ {xs : List D} {e : Env} (k : Nat), I k e → (∀ i e, (h : i < xs.length) → I (k + i) e → ∃ e', b xs[i] e = .ok (.next e') ∧ I (k + i + 1) e') → ∃ e', forL b xs e = .ok (.next e') ∧ I (k + xs.length) e'
  | [], e, k, h, _ => ⟨e, rfl, h⟩
  | x :: xs, e, k, h, hb => by
    obtain ⟨e1, h1, i1⟩ := hb 0 e (by simp) h
    have h1' : b x e = .ok (.next e1) := h1
    obtain ⟨e2, h2, i2⟩ := forL_inv (xs := xs) I (k + 1) i1 fun i e' hi hI => by
      have hI' : I (k + (i + 1)) e' := by
        rw [show k + (i + 1) = k + 1 + i by omega]
        exact hI
      obtain ⟨e3, h3, i3⟩ := hb (i + 1) e' (by simpa using hi) hI'
      refine ⟨e3, by simpa using h3, ?_⟩
      rw [show k + 1 + i + 1 = k + (i + 1) + 1 by omega]
      exact i3
    refine ⟨e2, ?_, ?_⟩
    · unfold forL
      rw [h1']
      exact h2
    · rw [show k + (x :: xs).length = k + 1 + xs.length by simp; omega]
      exact i2
/-- for each of range(n) -/
theorem forR_inv {b : D → Env → Res Fl} (I : Nat → Env → Prop) {n : Nat} {e : Env} (h0 : I 0 e) (hb : ∀ i e, i < n → I i e → ∃ e', b (.int ((i : Nat) : Int)) e = .ok (.next e') ∧ I (i + 1) e') :
    ∃ e', forL b ((List.range n).map fun i => .int ((i : Nat) : Int)) e = .ok (.next e') ∧ I n e' := by
  have q := forL_inv (b := b) (xs := (List.range n).map fun i => .int ((i : Nat) : Int)) I 0 h0 fun i e' hi hI => by
    have hi' : i < n := by simpa using hi
    have := hb i e' hi' (by simpa using hI)
    simpa using this
  simpa using q
/-! ### comprehensions -/
/-! ### sums, all -/
theorem intsOf_map : ∀ is : List Int, intsOf (is.map .int) = some is
  | [] => rfl
  | i :: is => by
    simp only [List.map_cons, intsOf, intsOf_map is]
    rfl
theorem boolsOf_map : ∀ is : List Bool, boolsOf (is.map .bl) = some is
  | [] => rfl
  | i :: is => by
    simp only [List.map_cons, boolsOf, boolsOf_map is]
    rfl
theorem ball_bools (bs : List Bool) : ball (.lst (bs.map .bl)) = .ok (.bl (bs.all id)) := by
  unfold ball
  simp only [boolsOf_map]
/-! ### bits -/
theorem intBits_1 : (Builtin.Int.intBits 1 : Int) = 1 := by decide
theorem oshl1 (p : Nat) (h : p ≤ 1000) : oshl (.int 1) (.int (p : Int)) = .ok (.int (2 ^ p)) := by
  rw [oshl_ii ⟨Int.natCast_nonneg p, by rw [intBits_1]; omega⟩, Int.toNat_natCast, Int.one_mul]
end Py
/-! The two defs that draw. -/
namespace Py
open PySem
def pickB : SM :=
  (seq (ite (tst (bin ogt (bin oidx (var 0) (cst (.int 2))) (cst (.int 1)))) (seq (asg (gnm 2) (bin omod (un bint (bin oidx (var 0) (cst (.int 2)))) (var 1)))
  (seq (setL 0 (cst (.int 2)) (bin ofdiv (bin oidx (var 0) (cst (.int 2))) (var 1)))
  (retB (var 2)))) skip)
  (seq (asg (gnm 3) (cst (.int 0)))
  (seq (ite (tst (bin olt (bin oidx (var 0) (cst (.int 1))) (un blenC (bin oidx (var 0) (cst (.int 0)))))) (seq (asg (gnm 3) (bin oidxC (bin oidx (var 0) (cst (.int 0))) (bin oidx (var 0) (cst (.int 1)))))
  (setL 0 (cst (.int 1)) (bin oadd (bin oidx (var 0) (cst (.int 1))) (cst (.int 1))))) skip)
  (seq (ite (tst (bin ogt (var 3) (bin oadd (bin opow (cst (.int 10)) (cst (.int 18))) (cst (.int 1))))) (seq (asg (gnm 3) (bin osub (var 3) (bin opow (cst (.int 10)) (cst (.int 18)))))
  (seq (setL 0 (cst (.int 2)) (bin ofdiv (var 3) (var 1)))
  (retB (bin omod (un bint (var 3)) (var 1))))) skip)
  (seq (setL 0 (cst (.int 3)) (bin omod (un bint (bin oadd (bin oadd (bin omul (bin oidx (var 0) (cst (.int 3))) (cst (.int 48271))) (bin omul (var 3) (cst (.int 69621)))) (cst (.int 11)))) (cst (.int 2147483647))))
  (retB (bin omod (bin ofdiv (bin omod (un bint (bin oadd (bin omul (bin oidx (var 0) (cst (.int 3))) (bin oidx (var 0) (cst (.int 3)))) (bin omul (bin oidx (var 0) (cst (.int 3))) (cst (.int 7919))))) (cst (.int 998244353))) (cst (.int 7))) (var 1))))))))
def pickT : SM :=
  (seq (ite (tst (bin ogt (var 3) (bin oadd (bin opow (cst (.int 10)) (cst (.int 18))) (cst (.int 1))))) (seq (asg (gnm 3) (bin osub (var 3) (bin opow (cst (.int 10)) (cst (.int 18)))))
  (seq (setL 0 (cst (.int 2)) (bin ofdiv (var 3) (var 1)))
  (retB (bin omod (un bint (var 3)) (var 1))))) skip)
  (seq (setL 0 (cst (.int 3)) (bin omod (un bint (bin oadd (bin oadd (bin omul (bin oidx (var 0) (cst (.int 3))) (cst (.int 48271))) (bin omul (var 3) (cst (.int 69621)))) (cst (.int 11)))) (cst (.int 2147483647))))
  (retB (bin omod (bin ofdiv (bin omod (un bint (bin oadd (bin omul (bin oidx (var 0) (cst (.int 3))) (bin oidx (var 0) (cst (.int 3)))) (bin omul (bin oidx (var 0) (cst (.int 3))) (cst (.int 7919))))) (cst (.int 998244353))) (cst (.int 7))) (var 1)))))
theorem draws_pick : Draws false 4 pickB := by
  rintro a0 xs _ n ⟨p, c, m, rfl, hp, hm0, hm1⟩ hn0 hn1
  have i0 : ∀ {a b c d : D}, oidx (.lst [a, b, c, d]) (.int 0) = .ok a := rfl
  have i1 : ∀ {a b c d : D}, oidx (.lst [a, b, c, d]) (.int 1) = .ok b := rfl
  have i2 : ∀ {a b c d : D}, oidx (.lst [a, b, c, d]) (.int 2) = .ok c := rfl
  have i3 : ∀ {a b c d : D}, oidx (.lst [a, b, c, d]) (.int 3) = .ok d := rfl
  have x1 : L2.ixN 4 1 = some 1 := rfl
  have x2 : L2.ixN 4 2 = some 2 := rfl
  have x3 : L2.ixN 4 3 = some 3 := rfl
  have hmod : ∀ z : Int, 0 ≤ z % n ∧ z % n < n := fun z => ⟨Int.emod_nonneg _ (by omega), Int.emod_lt_of_pos _ hn0⟩
  have mods : ∀ z : Int, omod (.int z) (.int n) = .ok (.int (z % n)) := fun z => omod_ii hn0
  have divs : ∀ z : Int, ofdiv (.int z) (.int n) = .ok (.int (z / n)) := fun z => ofdiv_ii ⟨hn0, hn1⟩
  have bl : blenC (.drw (.inr (a0, xs))) = .ok (.int (xs.length : Int)) := by simp [blenC]
  have md1 : ∀ z : Int, omod (.int z) (.int 2147483647) = .ok (.int (z % 2147483647)) := fun z => omod_ii (by decide)
  have md2 : ∀ z : Int, omod (.int z) (.int 998244353) = .ok (.int (z % 998244353)) := fun z => omod_ii (by decide)
  have dv7 : ∀ z : Int, ofdiv (.int z) (.int 7) = .ok (.int (z / 7)) := fun z => ofdiv_ii (by decide)
  have ml1 : ∀ z : Int, omul (.int z) (.int 48271) = .ok (.int (z * 48271)) := fun z => omul_r (by decide) (by decide)
  have ml2 : ∀ z : Int, omul (.int z) (.int 69621) = .ok (.int (z * 69621)) := fun z => omul_r (by decide) (by decide)
  have ml3 : ∀ z : Int, omul (.int z) (.int 7919) = .ok (.int (z * 7919)) := fun z => omul_r (by decide) (by decide)
  have ml4 : ∀ z y : Int, omul (.int (z % 2147483647)) (.int y) = .ok (.int (z % 2147483647 * y)) := fun z y => omul_l (by omega) (by omega)
  have mm : ∀ z : Int, 0 ≤ z % 2147483647 ∧ z % 2147483647 < 2147483647 := fun z => by omega
  by_cases hc : 1 < c
  · refine ⟨c % n, _, ?_, (hmod c).1, (hmod c).2, ⟨p, c / n, m, rfl, hp, hm0, hm1⟩⟩
    simp [pickB, pickT, var, setL, retB, i2, hc, x2, mods, divs]
  -- the end of the walk, the cell known
  have tail : ∀ (p' z : Int), 0 ≤ p' → ∃ r ds', (pickT : SM) [some (.lst [.drw (.inr (a0, xs)), .int p', .int c, .int m]), some (.int n), none, some (.int z)] = .ok (.ret (.tup [.int r, .lst ds'])) ∧ 0 ≤ r ∧ r < n ∧ DV false a0 xs ds' := by
    intro p' z hp'
    by_cases hz : 1000000000000000001 < z
    · refine ⟨(z - 1000000000000000000) % n, _, ?_, (hmod _).1, (hmod _).2, ⟨p', (z - 1000000000000000000) / n, m, rfl, hp', hm0, hm1⟩⟩
      simp [pickT, var, setL, retB, opow18, hz, x2, mods, divs]
    · generalize hu : (m * 48271 + z * 69621 + 11) % 2147483647 = u
      have hu1 := mm (m * 48271 + z * 69621 + 11)
      rw [hu] at hu1
      have ml5 : omul (.int u) (.int u) = .ok (.int (u * u)) := omul_l (by omega) (by omega)
      refine ⟨(u * u + u * 7919) % 998244353 / 7 % n, _, ?_, (hmod _).1, (hmod _).2, ⟨p', c, u, rfl, hp', hu1.1, hu1.2⟩⟩
      simp [pickT, var, setL, retB, opow18, hz, x3, i3, mods, divs, ml1, ml2, ml3, md1, hu, ml5, md2, dv7]
  by_cases hq : p < (xs.length : Int)
  · obtain ⟨k, rfl⟩ : ∃ k : Nat, p = (k : Int) := ⟨p.toNat, by omega⟩
    have hk : k < xs.length := by omega
    have cell : oidxC (.drw (.inr (a0, xs))) (.int (k : Int)) = .ok (.int xs[k]) := by
      unfold oidxC
      exact oidx_l (by simp [hk])
    obtain ⟨r, ds', h1, h2⟩ := tail ((k : Int) + 1) xs[k] (by omega)
    refine ⟨r, ds', ?_, h2⟩
    rw [← h1]
    simp [pickB, pickT, var, setL, i0, i1, i2, hc, hq, x1, bl, cell]
  · obtain ⟨r, ds', h1, h2⟩ := tail p 0 hp
    refine ⟨r, ds', ?_, h2⟩
    rw [← h1]
    simp [pickB, pickT, var, setL, i0, i1, i2, hc, hq, x1, bl]
end Py
/-! Dict comprehensions, keys walked, str of a number. -/
namespace Py
open PySem L2
/-- str(i) -/
def bstr : D → Res D
  | .int i => if i.natAbs.log2 < 1900 then .ok (.str (toString i)) else .stuck
  | _ => .stuck
end Py
/-! Texts: joined, split, with numbers put in; texts read as numbers; signs of a text; every other item. -/
namespace Py
open PySem L2
/-- cut at each c -/
def spC (c : Char) : List Char → List (List Char)
  | [] => [[]]
  | x :: r => if x = c then [] :: spC c r else match spC c r with
    | [] => [[x]]
    | p :: ps => (x :: p) :: ps
/-- with s between -/
def jnC (s : List Char) : List (List Char) → List Char
  | [] => []
  | [p] => p
  | p :: q :: r => p ++ (s ++ jnC s (q :: r))
def strsOf : List D → Option (List String)
  | [] => some []
  | .str s :: r => (strsOf r).map (s :: ·)
  | _ :: _ => none
def jnS (s : String) (ys : List String) : D := .str (String.ofList (jnC s.toList (ys.map String.toList)))
def joinOk (s : String) (ys : List String) : Bool := decide ((ys.map String.length).sum + ys.length * s.length ≤ SZ)
def joinL9 (s : String) (xs : List D) : Res D := match strsOf xs with
  | some ys => if joinOk s ys then .ok (jnS s ys) else .stuck
  | none => .stuck
/-- s.join(xs) -/
def ojoin : D → D → Res D
  | .str s, .lst xs => joinL9 s xs
  | .str s, .tup xs => joinL9 s xs
  | _, _ => .stuck
def spS (c : Char) (a : String) : List D := (spC c a.toList).map fun l => .str (String.ofList l)
/-- a.split(b), b of one sign -/
def osplit : D → D → Res D
  | .str a, .str b => match b.toList with
    | [c] => if a.length + 2 ≤ SZ ∧ c.toNat < 256 then .ok (.lst (spS c a)) else .stuck
    | _ => .stuck
  | _, _ => .stuck
/-- {x} in a text -/
def ofmt : D → Res D
  | .str s => if s.length ≤ SZ then .ok (.str s) else .stuck
  | .int i => if i.natAbs.log2 < 1900 then .ok (.str (toString i)) else .stuck
  | _ => .stuck
def dgV (l : List Char) : Nat := l.foldl (fun a c => a * 10 + (c.toNat - 48)) 0
def dgs (l : List Char) : Bool := !l.isEmpty && l.all fun c => decide (48 ≤ c.toNat) && decide (c.toNat ≤ 57)
/-- int(x), also of a text of figures -/
def bintx : D → Res D
  | .str s => if dgs s.toList && decide (s.length ≤ 640) then .ok (.int (dgV s.toList : Nat)) else .stuck
  | .int i => .ok (.int i)
  | .bl b => .ok (.int (b2i b))
  | _ => .stuck
/-- one sign in a text -/
def oinS : D → D → Res D
  | .str a, .str b => match a.toList with
    | [c] => .ok (.bl (decide (c ∈ b.toList)))
    | _ => .stuck
  | _, _ => .stuck
def ev2 {α : Type} : List α → List α
  | [] => []
  | [x] => [x]
  | x :: _ :: r => x :: ev2 r
/-- xs[k::2] -/
def oev2 (k : Nat) : D → Res D
  | .lst xs => .ok (.lst (ev2 (xs.drop k)))
  | _ => .stuck
/-- max of a list or a tuple of numbers -/
def bmaxT : D → Res D
  | .tup xs => match intsOf xs with | some (i :: is) => .ok (.int (is.foldl (fun a b => if b > a then b else a) i)) | _ => .stuck
  | d => bmaxL d
/-- a text's own method -/
def mtx (f : D → D → Res D) (mo ma : EM) : EM := fun e => mo e >>= fun s => match s with
  | .str _ => ma e >>= fun y => f s y
  | _ => .stuck
/-- the signs of a text -/
def istr (a : EM) : IM := fun e => a e >>= fun x => match x with
  | .str s => .ok (s.toList.map fun c => .str (String.ofList [c]))
  | _ => .stuck
end Py
/-! One sign not in a text. -/
namespace Py
open PySem L2
def onotinS : D → D → Res D
  | .str a, .str b => match a.toList with
    | [c] => .ok (.bl (!decide (c ∈ b.toList)))
    | _ => .stuck
  | _, _ => .stuck
end Py
/-! What plain data look like in the abstract heap, and the readings that say: this code computes that. -/
namespace Py
open PySem L2
theorem ofS_inj {a b : String} (h : Str.ofString a = Str.ofString b) : a = b := by
  rw [Str.ofString_eq_toList, Str.ofString_eq_toList] at h
  have h1 : a.toList.map Char.toNat = b.toList.map Char.toNat := by
    have := congrArg (fun s : Str => s.cps.toList) h
    simpa using this
  have h2 : a.toList = b.toList := by
    have hc : ∀ x y : Char, x.toNat = y.toNat → x = y := fun x y e => by
      apply Char.ext
      apply UInt32.toNat_inj.mp
      exact e
    generalize a.toList = l at h1
    generalize b.toList = m at h1
    induction l generalizing m with
    | nil => cases m with
      | nil => rfl
      | cons _ _ => simp at h1
    | cons x l ih => cases m with
      | nil => simp at h1
      | cons y m =>
        simp only [List.map_cons, List.cons.injEq] at h1
        rw [hc _ _ h1.1, ih m h1.2]
  exact String.ext_iff.mpr h2
/-- an address set to be avoided -/
abbrev AS := Addr → Prop
/-- a key of a dict of numbers and texts -/
def kvK : D → Option Key
  | .int i => some (.inl i)
  | .str s => some (.inr (Str.ofString s))
  | _ => none
mutual
/-- a key, nested -/
def nk : D → Option NestedKey
  | .non => some .none
  | .bl b => some (.num (b2i b))
  | .int i => some (.num i)
  | .tup xs => (nkL xs).map .tup
  | _ => none
def nkL : List D → Option (List NestedKey)
  | [] => some []
  | d :: r => match nk d, nkL r with | some k, some ks => some (k :: ks) | _, _ => none
end
def entW (w : World) (x : NestedKey × Addr × Value) : DictEntry := ⟨x.1.hash w, .ref x.2.1, x.2.2⟩
/-- what a dict with tuple keys holds; its table as it stands -/
abbrev E3 := List (NestedKey × Addr × V) × (Array DictEntry × Nat)
def dicT (a : Addr) (es : E3) : HO := .ext fun h => (a == sysModules) = false ∧ es.1.length ≤ sizeLine ∧ ∃ xs : List (NestedKey × Addr × Value), Paired (fun p q => p.1 = q.1 ∧ p.2.1 = q.2.1 ∧ RelV p.2.2 q.2.2) es.1 xs ∧
  ∃ o, h.get? a = some o ∧ o.ExactDict ∧ o.data = .dict es.2.1 es.2.2 ∧ (∀ w : World, es.2.1.toList = xs.map (entW w)) ∧ (xs.map (·.1)).Nodup
/-- a pool of draws: the script's numbers at a0, a place in them, what is left of a cell, the mixer (k: and a count) -/
def PoolV (k : Bool) (a0 : Addr) : List V → Prop := fun vs => match k with
  | false => ∃ p c m : Int, vs = [.ref a0, .int p, .int c, .int m] ∧ 0 ≤ p ∧ 0 ≤ m ∧ m < 2147483647
  | true => ∃ p c j m : Int, vs = [.ref a0, .int p, .int c, .int j, .int m] ∧ 0 ≤ p ∧ 0 ≤ m ∧ m < 2147483647
def poolO (k : Bool) (a a0 : Addr) : HO := .ext fun h => ∃ (vs : List V) (its : List Value) (n : Nat), PoolV k a0 vs ∧ Vals vs its ∧ h.get? a = some { cls := .type "list", data := .seq its.toArray n }
mutual
def Rep (K : Frag) (A : AS) (H : Hp) : D → V → Prop
  | .non, v => v = .non
  | .bl b, v => v = .bl b
  | .int i, v => v = .int i
  | .str s, v => v = .str (Str.ofString s)
  | .tup xs, v => ∃ a vs, v = .ref a ∧ SqT K H a vs ∧ RepL K A H xs vs
  | .lst xs, v => ∃ a vs, v = .ref a ∧ ¬ A a ∧ Rd H a (.lst vs) ∧ RepL K A H xs vs
  | .dic t kvs, v => ∃ a, v = .ref a ∧ ¬ A a ∧ ((t = false ∧ ∃ ks, H a = some (.dK ks) ∧ RepK K A H kvs ks) ∨ (t = true ∧ ∃ es, H a = some (dicT a es) ∧ RepT K A H kvs es.1))
  | .ins c fs, v => ∃ a dx fvs, v = .ref a ∧ ¬ A a ∧ H a = some (.ins (ca K c) dx fvs) ∧ RepF K A H fs fvs
  | .drw (.inr q), v => v = .ref q.1 ∧ ¬ A q.1 ∧ Rd H q.1 (.lst (q.2.map V.int))
  | .drw (.inl k), v => ∃ a a0 xs, v = .ref a ∧ ¬ A a ∧ H a = some (poolO k a a0) ∧ ¬ A a0 ∧ Rd H a0 (.lst ((xs : List Int).map V.int))
def RepL (K : Frag) (A : AS) (H : Hp) : List D → List V → Prop
  | [], vs => vs = []
  | d :: ds, vs => ∃ v r, vs = v :: r ∧ Rep K A H d v ∧ RepL K A H ds r
def RepF (K : Frag) (A : AS) (H : Hp) : List (String × D) → List (Str × V) → Prop
  | [], fs => fs = []
  | (n, d) :: r, fs => ∃ v q, fs = (Str.ofString n, v) :: q ∧ Rep K A H d v ∧ RepF K A H r q
def RepK (K : Frag) (A : AS) (H : Hp) : List (D × D) → List (Key × V) → Prop
  | [], ks => ks = []
  | (k, d) :: r, ks => ∃ c v q, ks = (c, v) :: q ∧ kvK k = some c ∧ Rep K A H d v ∧ RepK K A H r q
def RepT (K : Frag) (A : AS) (H : Hp) : List (D × D) → List (NestedKey × Addr × V) → Prop
  | [], es => es = []
  | (k, d) :: r, es => ∃ c b v q, es = (c, b, v) :: q ∧ (nk k = some c ∧ keyOk true k = true) ∧ Rep K A H k (.ref b) ∧ Rep K A H d v ∧ RepT K A H r q
end
/-- what a dict at a holds -/
def DicAt (K : Frag) (A : AS) (H : Hp) (a : Addr) (t : Bool) (kvs : List (D × D)) : Prop := (t = false ∧ ∃ ks, H a = some (.dK ks) ∧ RepK K A H kvs ks) ∨ (t = true ∧ ∃ es, H a = some (dicT a es) ∧ RepT K A H kvs es.1)
theorem rep_dic {K : Frag} {A : AS} {H : Hp} {t : Bool} {kvs : List (D × D)} {v : V} : Rep K A H (.dic t kvs) v ↔ ∃ a, v = .ref a ∧ ¬ A a ∧ DicAt K A H a t kvs := by
  simp only [Rep]
  exact Iff.rfl
/-- a tuple never changes -/
def still : HO → Prop
  | .tup _ => True
  | .frz _ (.tup _) => True
  | _ => False
/-- from H to H': what is not in A is kept, the new A' has of the old heap only A -/
structure Mv (A : AS) (H : Hp) (A' : AS) (H' : Hp) : Prop where
  av : ∀ a, A' a → A a ∨ H a = none
  kp : ∀ a o, H a = some o → (¬ A a ∨ still o) → H' a = some o
theorem Mv.same {A : AS} {H H' : Hp} (s : Same H H') : Mv A H A H' := ⟨fun _ h => .inl h, fun a o e _ => s a o e⟩
theorem Mv.less {A A' : AS} {H : Hp} (s : ∀ a, A' a → A a) : Mv A H A' H := ⟨fun a h => .inl (s a h), fun _ _ e _ => e⟩
theorem Mv.refl {A : AS} {H : Hp} : Mv A H A H := .same (Same.refl H)
theorem Mv.trans {A A1 A2 : AS} {H H1 H2 : Hp} (h : Mv A H A1 H1) (k : Mv A1 H1 A2 H2) : Mv A H A2 H2 := by
  refine ⟨fun a x => ?_, fun a o e q => ?_⟩
  · rcases k.av a x with y | y
    · exact h.av a y
    · cases e : H a with
      | none => exact .inr rfl
      | some o =>
        by_cases hA : A a
        · exact .inl hA
        · rw [h.kp a o e (.inl hA)] at y
          cases y
  · refine k.kp a o (h.kp a o e q) ?_
    rcases q with q | q
    · refine .inl fun y => ?_
      rcases h.av a y with z | z
      · exact q z
      · rw [e] at z
        cases z
    · exact .inr q
theorem Rd.move {A A' : AS} {H H' : Hp} {a : Addr} {u : HO} (m : Mv A H A' H') (h : Rd H a u) (n : ¬ A a) : Rd H' a u ∧ ¬ A' a := by
  have key : ∀ o, H a = some o → H' a = some o ∧ ¬ A' a := fun o e => ⟨m.kp a o e (.inl n), fun x => by
    rcases m.av a x with y | y
    · exact n y
    · rw [e] at y
      cases y⟩
  rcases h with h | ⟨o, h⟩
  · exact ⟨.inl (key _ h).1, (key _ h).2⟩
  · exact ⟨.inr ⟨o, (key _ h).1⟩, (key _ h).2⟩
theorem SqT.move {K : Frag} {A A' : AS} {H H' : Hp} {a : Addr} {vs : List V} (m : Mv A H A' H') (h : SqT K H a vs) : SqT K H' a vs := by
  rcases h with (h | ⟨o, h⟩) | h
  · exact .inl (.inl (m.kp a _ h (.inr trivial)))
  · exact .inl (.inr ⟨o, m.kp a _ h (.inr trivial)⟩)
  · exact .inr h
mutual
theorem Rep.move {K : Frag} {A A' : AS} {H H' : Hp} (m : Mv A H A' H') : ∀ (d : D) (v : V), Rep K A H d v → Rep K A' H' d v
  | .non, _, h => h
  | .bl _, _, h => h
  | .int _, _, h => h
  | .str _, _, h => h
  | .tup xs, v, h => by
    simp only [Rep] at h ⊢
    obtain ⟨a, vs, e, q, r⟩ := h
    exact ⟨a, vs, e, SqT.move m q, RepL.move m xs vs r⟩
  | .lst xs, v, h => by
    simp only [Rep] at h ⊢
    obtain ⟨a, vs, e, n, q, r⟩ := h
    exact ⟨a, vs, e, (Rd.move m q n).2, (Rd.move m q n).1, RepL.move m xs vs r⟩
  | .dic t kvs, v, h => by
    simp only [Rep] at h ⊢
    obtain ⟨a, e, n, ⟨ht, ks, q, r⟩ | ⟨ht, es, q, r⟩⟩ := h
    · have z := Rd.move m (.inl q) n
      exact ⟨a, e, z.2, .inl ⟨ht, ks, m.kp a _ q (.inl n), RepK.move m kvs ks r⟩⟩
    · have z := Rd.move m (.inl q) n
      exact ⟨a, e, z.2, .inr ⟨ht, es, m.kp a _ q (.inl n), RepT.move m kvs es.1 r⟩⟩
  | .ins c fs, v, h => by
    simp only [Rep] at h ⊢
    obtain ⟨a, dx, fvs, e, n, q, r⟩ := h
    have z : Rd H' a _ ∧ ¬ A' a := Rd.move m (.inl q) n
    refine ⟨a, dx, fvs, e, z.2, ?_, RepF.move m fs fvs r⟩
    exact m.kp a _ q (.inl n)
  | .drw (.inr q), v, h => by
    simp only [Rep] at h ⊢
    exact ⟨h.1, (Rd.move m h.2.2 h.2.1).2, (Rd.move m h.2.2 h.2.1).1⟩
  | .drw (.inl k), v, h => by
    simp only [Rep] at h ⊢
    obtain ⟨a, a0, xs, e, n, q, n0, r⟩ := h
    have z : Rd H' a _ ∧ ¬ A' a := Rd.move m (.inl q) n
    exact ⟨a, a0, xs, e, z.2, m.kp a _ q (.inl n), (Rd.move m r n0).2, (Rd.move m r n0).1⟩
theorem RepL.move {K : Frag} {A A' : AS} {H H' : Hp} (m : Mv A H A' H') : ∀ (ds : List D) (vs : List V), RepL K A H ds vs → RepL K A' H' ds vs
  | [], vs, h => by
    simp only [RepL] at h ⊢
    exact h
  | d :: ds, vs, h => by
    simp only [RepL] at h ⊢
    obtain ⟨v, r, e, h1, h2⟩ := h
    exact ⟨v, r, e, Rep.move m d v h1, RepL.move m ds r h2⟩
theorem RepF.move {K : Frag} {A A' : AS} {H H' : Hp} (m : Mv A H A' H') : ∀ (ds : List (String × D)) (vs : List (Str × V)), RepF K A H ds vs → RepF K A' H' ds vs
  | [], vs, h => by
    simp only [RepF] at h ⊢
    exact h
  | (n, d) :: ds, vs, h => by
    simp only [RepF] at h ⊢
    obtain ⟨v, r, e, h1, h2⟩ := h
    exact ⟨v, r, e, Rep.move m d v h1, RepF.move m ds r h2⟩
theorem RepK.move {K : Frag} {A A' : AS} {H H' : Hp} (m : Mv A H A' H') : ∀ (ds : List (D × D)) (vs : List (Key × V)), RepK K A H ds vs → RepK K A' H' ds vs
  | [], vs, h => by
    simp only [RepK] at h ⊢
    exact h
  | (k, d) :: ds, vs, h => by
    simp only [RepK] at h ⊢
    obtain ⟨c, v, r, e, h0, h1, h2⟩ := h
    exact ⟨c, v, r, e, h0, Rep.move m d v h1, RepK.move m ds r h2⟩
theorem RepT.move {K : Frag} {A A' : AS} {H H' : Hp} (m : Mv A H A' H') : ∀ (ds : List (D × D)) (vs : List (NestedKey × Addr × V)), RepT K A H ds vs → RepT K A' H' ds vs
  | [], vs, h => by
    simp only [RepT] at h ⊢
    exact h
  | (k, d) :: ds, vs, h => by
    simp only [RepT] at h ⊢
    obtain ⟨c, b, v, r, e, h0, h1, h2, h3⟩ := h
    exact ⟨c, b, v, r, e, h0, Rep.move m k _ h1, Rep.move m d v h2, RepT.move m ds r h3⟩
end
theorem DicAt.move {K : Frag} {A A' : AS} {H H' : Hp} {a : Addr} {t : Bool} {kvs : List (D × D)} (m : Mv A H A' H') (k : H' a = H a) (h : DicAt K A H a t kvs) : DicAt K A' H' a t kvs := by
  rcases h with ⟨ht, ks, q, r⟩ | ⟨ht, es, q, r⟩
  · exact .inl ⟨ht, ks, k.trans q, RepK.move m kvs ks r⟩
  · exact .inr ⟨ht, es, k.trans q, RepT.move m kvs es.1 r⟩
theorem RepL.length {K : Frag} {A : AS} {H : Hp} : ∀ {ds : List D} {vs : List V}, RepL K A H ds vs → ds.length = vs.length
  | [], vs, h => by
    simp only [RepL] at h
    subst h
    rfl
  | d :: ds, vs, h => by
    simp only [RepL] at h
    obtain ⟨v, r, rfl, h1, h2⟩ := h
    simp [RepL.length h2]
theorem RepL.get {K : Frag} {A : AS} {H : Hp} : ∀ {ds : List D} {vs : List V} {i : Nat} {d : D}, RepL K A H ds vs → ds[i]? = some d → ∃ v, vs[i]? = some v ∧ Rep K A H d v
  | [], vs, i, d, h, e => by simp at e
  | d0 :: ds, vs, i, d, h, e => by
    simp only [RepL] at h
    obtain ⟨v, r, rfl, h1, h2⟩ := h
    cases i with
    | zero =>
      simp at e
      subst e
      exact ⟨v, rfl, h1⟩
    | succ i =>
      obtain ⟨w, q1, q2⟩ := RepL.get (i := i) h2 (by simpa using e)
      exact ⟨w, by simpa using q1, q2⟩
theorem RepL.append {K : Frag} {A : AS} {H : Hp} : ∀ {ds es : List D} {vs ws : List V}, RepL K A H ds vs → RepL K A H es ws → RepL K A H (ds ++ es) (vs ++ ws)
  | [], es, vs, ws, h, k => by
    simp only [RepL] at h
    subst h
    exact k
  | d :: ds, es, vs, ws, h, k => by
    simp only [RepL] at h
    obtain ⟨v, r, rfl, h1, h2⟩ := h
    simp only [List.cons_append, RepL]
    exact ⟨v, r ++ ws, rfl, h1, RepL.append h2 k⟩
theorem RepL.drop {K : Frag} {A : AS} {H : Hp} : ∀ {ds : List D} {vs : List V} (n : Nat), RepL K A H ds vs → RepL K A H (ds.drop n) (vs.drop n)
  | ds, vs, 0, h => h
  | [], vs, n + 1, h => by
    simp only [RepL] at h
    subst h
    simp [RepL]
  | d :: ds, vs, n + 1, h => by
    simp only [RepL] at h
    obtain ⟨v, r, rfl, h1, h2⟩ := h
    exact RepL.drop n h2
theorem RepL.take {K : Frag} {A : AS} {H : Hp} : ∀ {ds : List D} {vs : List V} (n : Nat), RepL K A H ds vs → RepL K A H (ds.take n) (vs.take n)
  | ds, vs, 0, h => by simp [RepL]
  | [], vs, n + 1, h => by
    simp only [RepL] at h
    subst h
    simp [RepL]
  | d :: ds, vs, n + 1, h => by
    simp only [RepL] at h
    obtain ⟨v, r, rfl, h1, h2⟩ := h
    simp only [List.take_succ_cons, RepL]
    exact ⟨v, _, rfl, h1, RepL.take n h2⟩
theorem RepL.set {K : Frag} {A : AS} {H : Hp} {d : D} {v : V} (hd : Rep K A H d v) : ∀ {ds : List D} {vs : List V} (n : Nat), RepL K A H ds vs → RepL K A H (ds.set n d) (vs.set n v)
  | [], vs, n, h => by
    simp only [RepL] at h
    subst h
    simp [RepL]
  | d0 :: ds, vs, 0, h => by
    simp only [RepL] at h
    obtain ⟨w, r, rfl, h1, h2⟩ := h
    simp only [List.set_cons_zero, RepL]
    exact ⟨v, r, rfl, hd, h2⟩
  | d0 :: ds, vs, n + 1, h => by
    simp only [RepL] at h
    obtain ⟨w, r, rfl, h1, h2⟩ := h
    simp only [List.set_cons_succ, RepL]
    exact ⟨w, _, rfl, h1, RepL.set hd n h2⟩
theorem RepL.one {K : Frag} {A : AS} {H : Hp} {d : D} {v : V} (h : Rep K A H d v) : RepL K A H [d] [v] := by
  simp only [RepL]
  exact ⟨v, [], rfl, h, rfl⟩
theorem RepF.look {K : Frag} {A : AS} {H : Hp} {f : String} : ∀ {fs : List (String × D)} {vs : List (Str × V)}, RepF K A H fs vs →
    match fs.lookup f with | some d => ∃ v, vs.lookup (Str.ofString f) = some v ∧ Rep K A H d v | none => vs.lookup (Str.ofString f) = none
  | [], vs, h => by
    simp only [RepF] at h
    subst h
    rfl
  | (n, d) :: fs, vs, h => by
    simp only [RepF] at h
    obtain ⟨v, r, rfl, h1, h2⟩ := h
    by_cases e : f = n
    · subst e
      simp only [List.lookup_cons, beq_self_eq_true]
      exact ⟨v, rfl, h1⟩
    · have e2 : (Str.ofString f == Str.ofString n) = false := beq_eq_false_iff_ne.mpr fun q => e (ofS_inj q)
      have e3 : (f == n) = false := beq_eq_false_iff_ne.mpr e
      simp only [List.lookup_cons, e2, e3]
      exact RepF.look h2
theorem RepF.put {K : Frag} {A : AS} {H : Hp} {f : String} {d : D} {v : V} (hd : Rep K A H d v) : ∀ {fs : List (String × D)} {vs : List (Str × V)}, RepF K A H fs vs → RepF K A H (putF f d fs) (L2.putF (Str.ofString f) v vs)
  | [], vs, h => by
    simp only [RepF] at h
    subst h
    simp only [putF, L2.putF, RepF]
    exact ⟨v, [], rfl, hd, rfl⟩
  | (n, d0) :: fs, vs, h => by
    simp only [RepF] at h
    obtain ⟨w, r, rfl, h1, h2⟩ := h
    by_cases e : n = f
    · subst e
      simp only [putF, L2.putF, if_pos, RepF]
      exact ⟨v, r, rfl, hd, h2⟩
    · have e2 : ¬ Str.ofString n = Str.ofString f := fun q => e (ofS_inj q)
      simp only [putF, L2.putF, if_neg e, if_neg e2, RepF]
      exact ⟨w, _, rfl, h1, RepF.put hd h2⟩
theorem RepF.length {K : Frag} {A : AS} {H : Hp} : ∀ {fs : List (String × D)} {vs : List (Str × V)}, RepF K A H fs vs → fs.length = vs.length
  | [], vs, h => by
    simp only [RepF] at h
    subst h
    rfl
  | (n, d) :: fs, vs, h => by
    simp only [RepF] at h
    obtain ⟨v, r, rfl, h1, h2⟩ := h
    simp [RepF.length h2]
/-! ### the frame -/
/-- what a name's own object at a holds -/
def OwnAt (K : Frag) (A : AS) (H : Hp) (a : Addr) : D → Prop
  | .lst ds => ∃ vs, H a = some (.lst vs) ∧ RepL K A H ds vs
  | .ins c fs => ∃ dx fvs, H a = some (.ins (ca K c) dx fvs) ∧ RepF K A H fs fvs
  | .dic t kvs => DicAt K A H a t kvs
  | _ => False
theorem OwnAt.move {K : Frag} {A A' : AS} {H H' : Hp} {a : Addr} {d : D} (m : Mv A H A' H') (k : H' a = H a) (h : OwnAt K A H a d) : OwnAt K A' H' a d := by
  cases d with
  | lst ds =>
    obtain ⟨vs, e, r⟩ := h
    exact ⟨vs, k.trans e, RepL.move m _ _ r⟩
  | ins c fs =>
    obtain ⟨dx, fvs, e, r⟩ := h
    exact ⟨dx, fvs, k.trans e, RepF.move m _ _ r⟩
  | dic t kvs => exact DicAt.move m k h
  | _ => exact h
theorem OwnAt.obj {K : Frag} {A : AS} {H : Hp} {a : Addr} {d : D} (h : OwnAt K A H a d) : ∃ u, H a = some u ∧ ¬ still u ∧ ∀ fvs, u ≠ .xd fvs := by
  cases d with
  | lst ds =>
    obtain ⟨vs, e, _⟩ := h
    exact ⟨_, e, fun z => z, fun _ z => nomatch z⟩
  | ins c fs =>
    obtain ⟨dx, fvs, e, _⟩ := h
    exact ⟨_, e, fun z => z, fun _ z => nomatch z⟩
  | dic t kvs =>
    rcases h with ⟨_, ks, e, _⟩ | ⟨_, es, e, _⟩
    · exact ⟨_, e, fun z => z, fun _ z => nomatch z⟩
    · exact ⟨_, e, fun z => z, fun _ z => nomatch z⟩
  | _ => exact h.elim
/-- what is owned is a value for those who leave it alone -/
theorem OwnAt.rep {K : Frag} {A A' : AS} {H : Hp} {a : Addr} {d : D} (m : Mv A H A' H) (n : ¬ A' a) (h : OwnAt K A H a d) : Rep K A' H d (.ref a) := by
  cases d with
  | lst ds =>
    obtain ⟨vs, e, r⟩ := h
    simp only [Rep]
    exact ⟨a, vs, rfl, n, .inl e, RepL.move m _ _ r⟩
  | ins c fs =>
    obtain ⟨dx, fvs, e, r⟩ := h
    simp only [Rep]
    exact ⟨a, dx, fvs, rfl, n, e, RepF.move m _ _ r⟩
  | dic t kvs => exact rep_dic.mpr ⟨a, rfl, n, DicAt.move m rfl h⟩
  | _ => exact h.elim
abbrev OW := Nat → Option Addr
def AO (A : AS) (O : OW) : AS := fun a => A a ∨ ∃ i, O i = some a
/-- the heap at the entry; the object that slot 0 owns throughout (an __init__'s self) -/
structure Base where
  hp : Hp
  px : Option Addr
/-- what is known of a caught error: the slot of its name, where it stands, where its dict stands, what that holds -/
structure Xh where
  i : Nat
  a : Addr
  da : Addr
  fs : List (String × D)
/-- which names own; in an except suite: the caught error -/
structure Ow where
  f : Nat → Bool
  x : Option Xh
instance : CoeFun Ow (fun _ => Nat → Bool) := ⟨Ow.f⟩
@[reducible] def Ow.off (o : Ow) : Ow := ⟨fun i => match o.x with | some q => i == q.i | none => false, o.x⟩
structure XAt (K : Frag) (A : AS) (H : Hp) (σ : L2.St) (e : Env) (f : Nat → Bool) (q : Xh) : Prop where
  own : f q.i = true
  slot : σ[q.i]? = some (some (.ref q.a))
  no : ∀ d, e[q.i]? ≠ some (some d)
  xd : ∃ fvs, H q.da = some (.xd fvs) ∧ RepF K A H q.fs fvs
def XFact (K : Frag) (A : AS) (H : Hp) (σ : L2.St) (e : Env) (o : Ow) : Prop := ∀ q, o.x = some q → XAt K A H σ e o.f q
theorem XFact.none {K : Frag} {A : AS} {H : Hp} {σ : L2.St} {e : Env} {o : Ow} (h : o.x = none) : XFact K A H σ e o := fun q z => by
  rw [h] at z
  cases z
theorem XFact.move {K : Frag} {A A' : AS} {H H' : Hp} {σ σ' : L2.St} {e e' : Env} {o : Ow} (m : Mv A H A' H') (k : ∀ da fvs, H da = some (.xd fvs) → H' da = some (.xd fvs)) (s : ∀ i, o i = true → (∀ d, e[i]? ≠ some (some d)) → σ'[i]? = σ[i]? ∧ ∀ d, e'[i]? ≠ some (some d))
    (h : XFact K A H σ e o) : XFact K A' H' σ' e' o := fun q hq => by
  obtain ⟨h1, h2, h3, fvs, h4, h5⟩ := h q hq
  obtain ⟨s1, s2⟩ := s q.i h1 h3
  exact ⟨h1, s1.trans h2, s2, fvs, k _ _ h4, RepF.move m _ _ h5⟩
theorem XFact.heap {K : Frag} {A A' : AS} {H H' : Hp} {σ : L2.St} {e : Env} {o : Ow} (m : Mv A H A' H') (k : ∀ da fvs, H da = some (.xd fvs) → H' da = some (.xd fvs)) (h : XFact K A H σ e o) : XFact K A' H' σ e o := h.move m k fun i _ n => ⟨rfl, n⟩
/-- the frame's slots hold these data; ow: the names that own what they hold; H0: the heap at the entry -/
structure ER (K : Frag) (A : AS) (H0 : Base) (ow : Ow) (O : OW) (σ : L2.St) (H : Hp) (e : Env) : Prop where
  len : σ.length = e.length
  a0 : ∀ a, A a → H a ≠ none
  same : Same H0.hp H
  vals : ∀ i d, e[i]? = some (some d) → ow i = false → ∃ v, σ[i]? = some (some v) ∧ Rep K (AO A O) H d v
  owns : ∀ i d, e[i]? = some (some d) → ow i = true → ∃ a, O i = some a ∧ σ[i]? = some (some (.ref a)) ∧ OwnAt K (AO A O) H a d
  fresh : ∀ i a, O i = some a → H0.hp a = none ∧ H a ≠ none ∧ ¬ A a
  inj : ∀ i j a, O i = some a → O j = some a → i = j
  pin : ∀ a, H0.px = some a → O 0 = some a
  exq : XFact K (AO A O) H σ e ow
section
variable {K : Frag} {A : AS} {H0 : Base} {ow : Ow} {O : OW} {σ : L2.St} {H H' : Hp} {e : Env}
theorem ne_none {H H' : Hp} {a : Addr} (s : Same H H') (h : H a ≠ none) : H' a ≠ none := by
  cases q : H a with
  | none => exact absurd q h
  | some o =>
    rw [s a o q]
    exact fun z => nomatch z
theorem ER.there (R : ER K A H0 ow O σ H e) : ∀ a, AO A O a → H a ≠ none := fun a h => by
  rcases h with h | ⟨i, h⟩
  · exact R.a0 a h
  · exact (R.fresh i a h).2.1
theorem ER.to (R : ER K A H0 ow O σ H e) (s : Same H H') : ER K A H0 ow O σ H' e :=
  ⟨R.len, fun a h => ne_none s (R.a0 a h), R.same.trans s, fun i d h1 h2 => let ⟨v, q, r⟩ := R.vals i d h1 h2; ⟨v, q, Rep.move (Mv.same s) d v r⟩,
    fun i d h1 h2 => let ⟨a, q, q2, r⟩ := R.owns i d h1 h2; ⟨a, q, q2, r.move (Mv.same s) (by
      cases z : H a with
      | none => exact absurd z (R.fresh i a q).2.1
      | some o => exact s a o z)⟩,
    fun i a h => ⟨(R.fresh i a h).1, ne_none s (R.fresh i a h).2.1, (R.fresh i a h).2.2⟩, R.inj, R.pin, R.exq.heap (Mv.same s) fun da fvs e => s _ _ e⟩
/-- a name takes a value -/
theorem ER.set (R : ER K A H0 ow O σ H e) {i : Nat} {d : D} {v : V} (hi : ow i = false) (r : Rep K (AO A O) H d v) : ER K A H0 ow O (σ.set i (some v)) H (e.set i (some d)) := by
  refine ⟨by simp [R.len], R.a0, R.same, fun j d' h1 h2 => ?_, fun j d' h1 h2 => ?_, R.fresh, R.inj, R.pin, R.exq.move Mv.refl (fun _ _ e => e) fun j hj n => ?_⟩
  rotate_right
  · have hne : i ≠ j := fun z => by
      rw [z, hj] at hi
      cases hi
    rw [List.getElem?_set_ne hne, List.getElem?_set_ne hne]
    exact ⟨rfl, n⟩
  · by_cases hj : i = j
    · subst hj
      have hl : i < e.length := by
        have := (List.getElem?_eq_some_iff.mp h1).1
        simpa using this
      rw [List.getElem?_set_self hl] at h1
      cases h1
      exact ⟨v, List.getElem?_set_self (by rw [R.len]; exact hl), r⟩
    · rw [List.getElem?_set_ne hj] at h1
      rw [List.getElem?_set_ne hj]
      exact R.vals j d' h1 h2
  · have hj : i ≠ j := fun z => by
      subst z
      rw [hi] at h2
      cases h2
    rw [List.getElem?_set_ne hj] at h1
    rw [List.getElem?_set_ne hj]
    exact R.owns j d' h1 h2
/-- names forgotten -/
theorem ER.sub {e' : Env} {σ' : L2.St} (R : ER K A H0 ow O σ H e) (hl : σ'.length = e'.length) (h : ∀ (i : Nat) (d : D), e'[i]? = some (some d) → e[i]? = some (some d) ∧ σ'[i]? = σ[i]?) (hx : ∀ q : Xh, ow.x = some q → σ'[q.i]? = σ[q.i]?) : ER K A H0 ow O σ' H e' :=
  ⟨hl, R.a0, R.same, fun i d h1 h2 => by rw [(h i d h1).2]; exact R.vals i d (h i d h1).1 h2, fun i d h1 h2 => by rw [(h i d h1).2]; exact R.owns i d (h i d h1).1 h2, R.fresh, R.inj, R.pin, fun q hq => by
    obtain ⟨h1, h2, h3, h4⟩ := R.exq q hq
    exact ⟨h1, (hx q hq).trans h2, fun d z => h3 d (h _ d z).1, h4⟩⟩
end
theorem wipe_env (vs : List Nat) (e : Env) (i : Nat) (d : D) (h : (wipe e vs)[i]? = some (some d)) : e[i]? = some (some d) ∧ i ∉ vs := by
  induction vs with
  | nil => exact ⟨h, by simp⟩
  | cons j r ih =>
    unfold wipe at h
    by_cases hj : j = i
    · subst hj
      by_cases hl : j < (wipe e r).length
      · rw [List.getElem?_set_self hl] at h
        cases h
      · rw [List.getElem?_eq_none (by simp; omega)] at h
        cases h
    · rw [List.getElem?_set_ne hj] at h
      obtain ⟨a, b⟩ := ih h
      exact ⟨a, by simp [b, Ne.symm hj]⟩
theorem wipe_len (vs : List Nat) (e : Env) : (wipe e vs).length = e.length := by
  induction vs with
  | nil => rfl
  | cons j r ih => unfold wipe; simp [ih]
theorem ER.wipe {K : Frag} {A : AS} {H0 : Base} {ow : Ow} {O : OW} {σ : L2.St} {H : Hp} {e : Env} (R : ER K A H0 ow O σ H e) (vs : List Nat) (hx : ow.x = none) : ER K A H0 ow O (L2.wipe σ vs) H (Py.wipe e vs) :=
  R.sub (by rw [L2.wipe_length, wipe_len, R.len]) (fun i d h => ⟨(wipe_env vs e i d h).1, L2.wipe_out (wipe_env vs e i d h).2⟩) fun q hq => by
    rw [hx] at hq
    cases hq
/-! ### readings -/
def Out {α : Type} (r : Res α) (good : α → Prop) (bad : String → List (String × D) → Prop) : Prop := match r with
  | .ok a => good a
  | .exc c fs => bad c fs
  | .stuck => False
  | .pick n k => ∀ i, i ≤ n → Out (k i) good bad
/-- a may come of it -/
def Res.leaf {α : Type} (a : α) : Res α → Prop
  | .ok b => b = a
  | .exc _ _ => False
  | .stuck => False
  | .pick n k => ∃ i, i ≤ n ∧ Res.leaf a (k i)
theorem Out.bind {α β : Type} {r : Res α} {f : α → Res β} {good : β → Prop} {bad : String → List (String × D) → Prop} (h : Out (r >>= f) good bad) : Out r (fun a => Out (f a) good bad) bad := by
  induction r with
  | ok a => exact h
  | exc c fs => exact h
  | stuck => exact h
  | pick n k ih =>
    rw [bind_pick] at h
    exact fun i hi => ih i (h i hi)
theorem Out.join {α β : Type} {r : Res α} {f : α → Res β} {good : β → Prop} {bad : String → List (String × D) → Prop} (h : Out r (fun a => Out (f a) good bad) bad) : Out (r >>= f) good bad := by
  induction r with
  | ok a => exact h
  | exc c fs => exact h
  | stuck => exact h
  | pick n k ih =>
    rw [bind_pick]
    exact fun i hi => ih i (h i hi)
theorem Out.imp {α : Type} {r : Res α} {good good' : α → Prop} {bad bad' : String → List (String × D) → Prop} (h : Out r good bad) (hg : ∀ a, Res.leaf a r → good a → good' a) (hb : ∀ c fs, bad c fs → bad' c fs) : Out r good' bad' := by
  induction r with
  | ok a => exact hg a rfl h
  | exc c fs => exact hb c fs h
  | stuck => exact h
  | pick n k ih => exact fun i hi => ih i (h i hi) fun a l => hg a ⟨i, hi, l⟩
theorem Out.good {α : Type} {r : Res α} {good good' : α → Prop} {bad : String → List (String × D) → Prop} (h : Out r good bad) (hg : ∀ a, good a → good' a) : Out r good' bad := h.imp (fun a _ => hg a) fun _ _ x => x
theorem Out.noexc {α : Type} {r : Res α} {good : α → Prop} {bad bad' : String → List (String × D) → Prop} (h : Out (noexc r) good bad) : Out r good bad' := by
  induction r with
  | ok a => exact h
  | exc c fs => exact h.elim
  | stuck => exact h
  | pick n k ih => exact fun i hi => ih i (h i hi)
theorem Out.catch {α : Type} {g : String → List (String × D) → Res α} {r : Res α} {good : α → Prop} {bad : String → List (String × D) → Prop} (h : Out (Res.catch_ g r) good bad) : Out r good (fun c fs => Out (g c fs) good bad) := by
  induction r with
  | ok a => exact h
  | exc c fs => exact h
  | stuck => exact h
  | pick n k ih => exact fun i hi => ih i (h i hi)
abbrev Nev : String → List (String × D) → Prop := fun _ _ => False
theorem Out.void {α : Type} {r : Res α} (h : Out r (fun _ => False) Nev) : False := by
  induction r with
  | ok a => exact h
  | exc c fs => exact h
  | stuck => exact h
  | pick n k ih => exact ih 0 (h 0 (Nat.zero_le _))
/-- what an exception must show that leaves an expression -/
def badE (K : Frag) (W : WX) (A : AS) (O : OW) (σ : L2.St) (H : Hp) (c : String) (fs : List (String × D)) : Prop :=
  ∀ da H' fvs, Same H H' → H' da = some (.xd fvs) → RepF K (AO A O) H' fs fvs → W (.ref (ca K c)) (some da) σ H'
theorem badE.to {K : Frag} {W : WX} {A : AS} {O : OW} {σ : L2.St} {H H1 : Hp} (s : Same H H1) {c : String} {fs : List (String × D)} (h : badE K W A O σ H c fs) : badE K W A O σ H1 c fs := fun da H' fvs s' => h da H' fvs (s.trans s')
theorem Out.to {K : Frag} {W : WX} {A : AS} {O : OW} {σ : L2.St} {H H1 : Hp} {α : Type} {r : Res α} {good : α → Prop} (s : Same H H1) (h : Out r good (badE K W A O σ H)) : Out r good (badE K W A O σ H1) := h.imp (fun _ _ x => x) fun _ _ x => x.to s
/-- a value that may be a name's own list or object: what is within it is clean -/
def RepW (K : Frag) (A : AS) (H : Hp) : D → V → Prop
  | .lst xs, v => ∃ a vs, v = .ref a ∧ Rd H a (.lst vs) ∧ RepL K A H xs vs
  | .ins c fs, v => ∃ a dx fvs, v = .ref a ∧ H a = some (.ins (ca K c) dx fvs) ∧ RepF K A H fs fvs
  | .dic t kvs, v => ∃ a, v = .ref a ∧ DicAt K A H a t kvs
  | d, v => Rep K A H d v
theorem RepW.of {K : Frag} {A : AS} {H : Hp} {d : D} {v : V} (h : Rep K A H d v) : RepW K A H d v := by
  cases d with
  | lst xs =>
    simp only [Rep] at h
    obtain ⟨a, vs, e, _, q, r⟩ := h
    exact ⟨a, vs, e, q, r⟩
  | ins c fs =>
    simp only [Rep] at h
    obtain ⟨a, dx, fvs, e, _, q, r⟩ := h
    exact ⟨a, dx, fvs, e, q, r⟩
  | dic t kvs =>
    obtain ⟨a, e, _, q⟩ := rep_dic.mp h
    exact ⟨a, e, q⟩
  | _ => exact h
theorem RepW.none {K : Frag} {A : AS} {H : Hp} {d : D} {v : V} (h : RepW K A H d v) : Rep K (fun _ => False) H d v := by
  have z : Mv A H (fun _ => False) H := Mv.less fun _ x => x.elim
  cases d with
  | lst xs =>
    obtain ⟨a, vs, e, q, r⟩ := h
    simp only [Rep]
    exact ⟨a, vs, e, fun x => x, q, RepL.move z _ _ r⟩
  | ins c fs =>
    obtain ⟨a, dx, fvs, e, q, r⟩ := h
    simp only [Rep]
    exact ⟨a, dx, fvs, e, fun x => x, q, RepF.move z _ _ r⟩
  | dic t kvs =>
    obtain ⟨a, e, q⟩ := h
    exact rep_dic.mpr ⟨a, e, fun x => x, q.move z rfl⟩
  | _ => exact Rep.move z _ _ h
/-- a relation between data and values, under what is to be avoided -/
abbrev RR := AS → Hp → D → V → Prop
/-- an expression that computes m -/
def tG (R : RR) (K : Frag) (W : WX) (ow : Ow) (m : EM) : TE := fun σ H Q => ∃ A H0 O e, ER K A H0 ow O σ H e ∧
  Out (m e) (fun d => ∀ v H', Same H H' → R (AO A O) H' d v → Q v H') (badE K W A O σ H)
/-- .. clean -/
abbrev tE (K : Frag) (W : WX) (ow : Ow) (m : EM) : TE := tG (Rep K) K W ow m
/-- .. to be read only -/
abbrev tW (K : Frag) (W : WX) (ow : Ow) (m : EM) : TE := tG (RepW K) K W ow m
/-- .. a new list -/
def tF (K : Frag) (W : WX) (ow : Ow) (m : EM) : TE := fun σ H Q => ∃ A H0 O e, ER K A H0 ow O σ H e ∧
  Out (m e) (fun d => ∀ a H', H a = none → Same H H' → OwnAt K (fun b => AO A O b ∨ b = a) H' a d → Q (.ref a) H') (badE K W A O σ H)
def tT (K : Frag) (W : WX) (ow : Ow) (m : TM) : TT := fun σ H Q => ∃ A H0 O e, ER K A H0 ow O σ H e ∧
  Out (m e) (fun b => ∀ H', Same H H' → Q b H') (badE K W A O σ H)
def tA (R : RR) (K : Frag) (W : WX) (ow : Ow) (m : AM) : TA := fun σ H Q => ∃ A H0 O e, ER K A H0 ow O σ H e ∧
  Out (m e) (fun ds => ∀ vs H', Same H H' → Paired (fun v d => R (AO A O) H' d v) vs ds → Q vs H') (badE K W A O σ H)
section
variable {X : Cx} {K : Frag} {W : WX} {A : AS} {H0 : Base} {ow : Ow}
theorem PE.of {e : Expr} {t t' : TE} (h : PE X e t) (k : ∀ σ H Q, t' σ H Q → t σ H Q) : PE X e t' := ⟨fun pins s σ H Q I q => h.run pins s σ H Q I (k σ H Q q)⟩
theorem PT.of {e : Expr} {t t' : TT} (h : PT X e t) (k : ∀ σ H Q, t' σ H Q → t σ H Q) : PT X e t' := ⟨fun pins s σ H Q I q => h.run pins s σ H Q I (k σ H Q q)⟩
theorem PW.of {e : Expr} {t t' : TT} (h : PW X e t) (k : ∀ σ H Q, t' σ H Q → t σ H Q) : PW X e t' := ⟨fun wh pins s σ H Q I q => h.run wh pins s σ H Q I (k σ H Q q)⟩
theorem PA.of {e : List Expr} {t t' : TA} (h : PA X e t) (k : ∀ σ H Q, t' σ H Q → t σ H Q) : PA X e t' := ⟨fun pos pins s σ H Q I q => h.run pos pins s σ H Q I (k σ H Q q)⟩
theorem PS.of {e : Stmt} {t t' : TS} (h : PS X e t) (k : ∀ D σ H, t' D σ H → t D σ H) : PS X e t' := ⟨fun pins s σ H D I q => h.run pins s σ H D I (k D σ H q)⟩
theorem PSs.of {e : List Stmt} {t t' : TS} (h : PSs X e t) (k : ∀ D σ H, t' D σ H → t D σ H) : PSs X e t' := ⟨fun pins s σ H D I q => h.run pins s σ H D I (k D σ H q)⟩
theorem w_of {e : Expr} {m : EM} (h : PE X e (tE K W ow m)) : PE X e (tW K W ow m) := PE.of h fun σ H Q ⟨A, H0, O, en, R, q⟩ => ⟨A, H0, O, en, R, q.good fun d k v H' s r => k v H' s (RepW.of r)⟩
theorem e_of {e : Expr} {m : EM} (h : PE X e (tF K W ow m)) : PE X e (tE K W ow m) := PE.of h fun σ H Q ⟨A, H0, O, en, R, q⟩ => ⟨A, H0, O, en, R, q.good fun d k a H' n s r => by
  refine k (.ref a) H' s ?_
  have na : ¬ AO A O a := fun z => R.there a z n
  have mv : Mv (fun b => AO A O b ∨ b = a) H' (AO A O) H' := Mv.less fun b x => .inl x
  exact r.rep mv na⟩
/-! names, constants -/
theorem x_var {i : Nat} {e : Expr} (h : PE X e (tVar i)) (hi : ow i = false) : PE X e (tE K W ow (var i)) := PE.of h fun σ H Q ⟨A, H0, O, en, R, q⟩ => by
  unfold var at q
  split at q
  · rename_i d hd
    obtain ⟨v, e1, r⟩ := R.vals i d hd hi
    exact ⟨v, e1, q v H (Same.refl H) r⟩
  · exact q.elim
/-- a name's own list, read -/
theorem x_own {i : Nat} {e : Expr} (h : PE X e (tVar i)) : PE X e (tW K W ow (var i)) := PE.of h fun σ H Q ⟨A, H0, O, en, R, q⟩ => by
  unfold var at q
  split at q
  · rename_i d hd
    cases hi : ow i with
    | false =>
      obtain ⟨v, e1, r⟩ := R.vals i d hd hi
      exact ⟨v, e1, q v H (Same.refl H) (RepW.of r)⟩
    | true =>
      obtain ⟨a, _, e1, r⟩ := R.owns i d hd hi
      refine ⟨.ref a, e1, q _ H (Same.refl H) ?_⟩
      cases d with
      | lst ds =>
        obtain ⟨vs, e2, r⟩ := r
        exact ⟨a, vs, rfl, .inl e2, r⟩
      | ins c fs =>
        obtain ⟨dx, fvs, e2, r⟩ := r
        exact ⟨a, dx, fvs, rfl, e2, r⟩
      | dic t kvs => exact ⟨a, rfl, r⟩
      | _ => exact r.elim
  · exact q.elim
/-- data that need no object -/
def flat : D → Option V
  | .non => some .non
  | .bl b => some (.bl b)
  | .int i => some (.int i)
  | .str s => some (.str (Str.ofString s))
  | _ => none
theorem flat_rep {d : D} {v : V} (h : flat d = some v) (A : AS) (H : Hp) : Rep K A H d v := by
  cases d <;> simp only [flat, Option.some.injEq] at h <;> first | exact h.symm | cases h
theorem x_cst {e : Expr} {d : D} {v : V} (h : PE X e (tC v)) (hf : flat d = some v) : PE X e (tE K W ow (cst d)) := PE.of h fun σ H Q ⟨A, H0, O, en, R, q⟩ => q v H (Same.refl H) (flat_rep hf _ _)
theorem x_int {i j pos} : PE X (.Constant (.int i) j pos) (tE K W ow (cst (.int i))) := x_cst pe_int rfl
theorem x_bl {i j pos} : PE X (.Constant (.bool i) j pos) (tE K W ow (cst (.bl i))) := x_cst pe_bl rfl
theorem x_non {j pos} : PE X (.Constant .none j pos) (tE K W ow (cst .non)) := x_cst pe_non rfl
theorem x_str {s : String} {j pos} : PE X (.Constant (.str (Str.ofString s)) j pos) (tE K W ow (cst (.str s))) := x_cst pe_str rfl
end
end Py
/-! Dicts: their keys in the heap, look-ups, stores. -/
namespace Py
open PySem L2
/-! ### keys -/
mutual
theorem hk_nk : ∀ (n : Nat) (d : D), hk n d = true → ∃ k, nk d = some k ∧ k.depth ≤ n
  | n, .non, _ => ⟨.none, by simp [nk], by simp [NestedKey.depth]⟩
  | n, .bl b, _ => ⟨.num (b2i b), by simp [nk], by simp [NestedKey.depth]⟩
  | n, .int i, _ => ⟨.num i, by simp [nk], by simp [NestedKey.depth]⟩
  | n + 1, .tup xs, h => by
    simp only [hk] at h
    obtain ⟨ks, h1, h2⟩ := hk_nkL n xs h
    exact ⟨.tup ks, by simp [nk, h1], by simp only [NestedKey.depth]; omega⟩
  | 0, .tup xs, h => by simp [hk] at h
  | n, .str _, h => by cases n <;> simp [hk] at h
  | n, .lst _, h => by cases n <;> simp [hk] at h
  | n, .dic _ _, h => by cases n <;> simp [hk] at h
  | n, .ins _ _, h => by cases n <;> simp [hk] at h
  | n, .drw _, h => by cases n <;> simp [hk] at h
theorem hk_nkL : ∀ (n : Nat) (ds : List D), ds.all (hk n) = true → ∃ ks, nkL ds = some ks ∧ NestedKey.depthAll ks ≤ n
  | n, [], _ => ⟨[], by simp [nkL], by simp [NestedKey.depthAll]⟩
  | n, d :: ds, h => by
    simp only [List.all_cons, Bool.and_eq_true] at h
    obtain ⟨k, h1, h2⟩ := hk_nk n d h.1
    obtain ⟨ks, h3, h4⟩ := hk_nkL n ds h.2
    exact ⟨k :: ks, by simp [nkL, h1, h3], by simp only [NestedKey.depthAll]; omega⟩
end
theorem nkL_cons {d : D} {ds : List D} {ks : List NestedKey} (h : nkL (d :: ds) = some ks) : ∃ k r, nk d = some k ∧ nkL ds = some r ∧ ks = k :: r := by
  simp only [nkL] at h
  split at h
  · rename_i k r e1 e2
    exact ⟨k, r, e1, e2, (Option.some.inj h).symm⟩
  · cases h
mutual
theorem nk_hash (w w' : World) : ∀ (d : D) (k : NestedKey), nk d = some k → k.hash w = k.hash w'
  | .non, k, h => by simp only [nk, Option.some.injEq] at h; subst h; simp [NestedKey.hash]
  | .bl b, k, h => by simp only [nk, Option.some.injEq] at h; subst h; simp [NestedKey.hash]
  | .int b, k, h => by simp only [nk, Option.some.injEq] at h; subst h; simp [NestedKey.hash]
  | .tup xs, k, h => by
    simp only [nk, Option.map_eq_some_iff] at h
    obtain ⟨ks, h1, rfl⟩ := h
    simp only [NestedKey.hash]
    rw [nk_hashL w w' xs ks h1]
  | .str _, k, h => by simp [nk] at h
  | .lst _, k, h => by simp [nk] at h
  | .dic _ _, k, h => by simp [nk] at h
  | .ins _ _, k, h => by simp [nk] at h
  | .drw _, k, h => by simp [nk] at h
theorem nk_hashL (w w' : World) : ∀ (ds : List D) (ks : List NestedKey), nkL ds = some ks → NestedKey.hashes w ks = NestedKey.hashes w' ks
  | [], ks, h => by simp only [nkL, Option.some.injEq] at h; subst h; simp [NestedKey.hashes]
  | d :: ds, ks, h => by
    obtain ⟨k, r, h1, h2, rfl⟩ := nkL_cons h
    simp only [NestedKey.hashes]
    rw [nk_hash w w' d k h1, nk_hashL w w' ds r h2]
end
mutual
theorem nk_eqv : ∀ (d e : D) (k j : NestedKey), nk d = some k → nk e = some j → eqv d e = NestedKey.beq k j
  | .non, e, k, j, h, h' => by
    simp only [nk, Option.some.injEq] at h
    subst h
    cases e <;> simp only [nk, Option.some.injEq, reduceCtorEq, Option.map_eq_some_iff] at h' <;> first | (subst h'; simp [eqv, NestedKey.beq]) | (obtain ⟨_, _, rfl⟩ := h'; simp [eqv, NestedKey.beq])
  | .bl b, e, k, j, h, h' => by
    simp only [nk, Option.some.injEq] at h
    subst h
    cases e <;> simp only [nk, Option.some.injEq, reduceCtorEq, Option.map_eq_some_iff] at h' <;> first | (subst h'; simp [eqv, NestedKey.beq]; try rfl) | (obtain ⟨_, _, rfl⟩ := h'; simp [eqv, NestedKey.beq])
    rename_i c
    cases b <;> cases c <;> simp [b2i]
  | .int i, e, k, j, h, h' => by
    simp only [nk, Option.some.injEq] at h
    subst h
    cases e <;> simp only [nk, Option.some.injEq, reduceCtorEq, Option.map_eq_some_iff] at h' <;> first | (subst h'; simp [eqv, NestedKey.beq]; try rfl) | (obtain ⟨_, _, rfl⟩ := h'; simp [eqv, NestedKey.beq])
  | .tup xs, e, k, j, h, h' => by
    simp only [nk, Option.map_eq_some_iff] at h
    obtain ⟨ks, h1, rfl⟩ := h
    cases e <;> simp only [nk, Option.some.injEq, reduceCtorEq, Option.map_eq_some_iff] at h' <;> first | (subst h'; simp [eqv, NestedKey.beq]; done) | skip
    rename_i ys
    obtain ⟨js, h2, rfl⟩ := h'
    simp only [eqv, NestedKey.beq]
    exact nk_eqvL xs ys ks js h1 h2
  | .str _, e, k, j, h, _ => by simp [nk] at h
  | .lst _, e, k, j, h, _ => by simp [nk] at h
  | .dic _ _, e, k, j, h, _ => by simp [nk] at h
  | .ins _ _, e, k, j, h, _ => by simp [nk] at h
  | .drw _, e, k, j, h, _ => by simp [nk] at h
theorem nk_eqvL : ∀ (ds es : List D) (ks js : List NestedKey), nkL ds = some ks → nkL es = some js → eqv.eqvL ds es = NestedKey.beqAll ks js
  | [], [], ks, js, h, h' => by
    simp only [nkL, Option.some.injEq] at h h'
    subst h h'
    simp [eqv.eqvL, NestedKey.beqAll]
  | [], e :: es, ks, js, h, h' => by
    obtain ⟨k, r, h1, h2, rfl⟩ := nkL_cons h'
    simp only [nkL, Option.some.injEq] at h
    subst h
    simp [eqv.eqvL, NestedKey.beqAll]
  | d :: ds, [], ks, js, h, h' => by
    obtain ⟨k, r, h1, h2, rfl⟩ := nkL_cons h
    simp only [nkL, Option.some.injEq] at h'
    subst h'
    simp [eqv.eqvL, NestedKey.beqAll]
  | d :: ds, e :: es, ks, js, h, h' => by
    obtain ⟨k, r, h1, h2, rfl⟩ := nkL_cons h
    obtain ⟨k', r', h1', h2', rfl⟩ := nkL_cons h'
    simp only [eqv.eqvL, NestedKey.beqAll]
    rw [nk_eqv d e k k' h1 h1', nk_eqvL ds es r r' h2 h2']
end
theorem nk_eq {d e : D} {k j : NestedKey} (h : nk d = some k) (h' : nk e = some j) : eqv d e = decide (k = j) := by
  rw [NestedKey.decide_eq]
  exact nk_eqv d e k j h h'
theorem keyT {k : D} (h : keyOk true k = true) : ∃ c, nk k = some c ∧ c.depth ≤ 8 := by
  cases k <;> simp only [keyOk, reduceCtorEq] at h <;> first | cases h | exact hk_nk 8 _ h
theorem keyK {k : D} (h : keyOk false k = true) : ∃ c, kvK k = some c := by
  cases k <;> first | exact ⟨_, rfl⟩ | simp [keyOk] at h
theorem kv_eq {d e : D} {k j : Key} (h : kvK d = some k) (h' : kvK e = some j) : eqv d e = decide (k = j) := by
  cases d <;> simp only [kvK, Option.some.injEq, reduceCtorEq] at h <;> subst h <;> cases e <;> simp only [kvK, Option.some.injEq, reduceCtorEq] at h' <;> subst h' <;> simp [eqv]
  · rename_i a b
    by_cases q : a = b <;> simp [q]
  · rename_i a b
    by_cases q : a = b
    · simp [q]
    · have q2 : ¬ Str.ofString a = Str.ofString b := fun z => q (ofS_inj z)
      simp [q, q2]
theorem kv_rep {K : Frag} {A : AS} {H : Hp} {d : D} {k : Key} {v : V} (h : kvK d = some k) (r : Rep K A H d v) : v = kV k := by
  cases d <;> simp only [kvK, Option.some.injEq, reduceCtorEq] at h <;> subst h <;> simp only [Rep] at r <;> exact r
/-! ### in the heap -/
section
variable {X : Cx} {pins : List (Addr × Obj)} {σ : L2.St} {H : Hp} {s : Shared} {A : AS} {a : Addr}
mutual
theorem nest_of (I : Inv X pins σ H s) : ∀ (d : D) (v : V) (u : Value) (k : NestedKey), nk d = some k → Rep X.K A H d v → RelV v u → NestedIs s.heap k u
  | .non, v, u, k, h, r, e => by
    simp only [nk, Option.some.injEq] at h
    simp only [Rep] at r
    subst h r
    cases (show u = Value.none from e)
    exact .none
  | .bl b, v, u, k, h, r, e => by
    simp only [nk, Option.some.injEq] at h
    simp only [Rep] at r
    subst h r
    cases (show u = Value.bool b from e)
    exact .bool (by cases b <;> rfl)
  | .int i, v, u, k, h, r, e => by
    simp only [nk, Option.some.injEq] at h
    simp only [Rep] at r
    subst h r
    obtain ⟨t, rfl⟩ := (show ∃ t, u = Value.int i t from e)
    exact .int _ _
  | .tup xs, v, u, k, h, r, e => by
    simp only [nk, Option.map_eq_some_iff] at h
    obtain ⟨ks, h1, rfl⟩ := h
    simp only [Rep] at r
    obtain ⟨b, vs, rfl, q, r⟩ := r
    cases (show u = Value.ref b from e)
    obtain ⟨its, rv, ⟨o, g1, g2, n, g3⟩, _⟩ := I.tuple q
    exact .tup g1 g2 g3 (by simpa using nest_ofL I xs vs its ks h1 r rv)
  | .str _, v, u, k, h, _, _ => by simp [nk] at h
  | .lst _, v, u, k, h, _, _ => by simp [nk] at h
  | .dic _ _, v, u, k, h, _, _ => by simp [nk] at h
  | .ins _ _, v, u, k, h, _, _ => by simp [nk] at h
  | .drw _, v, u, k, h, _, _ => by simp [nk] at h
theorem nest_ofL (I : Inv X pins σ H s) : ∀ (ds : List D) (vs : List V) (us : List Value) (ks : List NestedKey), nkL ds = some ks → RepL X.K A H ds vs → Vals vs us → NestedAll s.heap ks us
  | [], vs, us, ks, h, r, e => by
    simp only [nkL, Option.some.injEq] at h
    simp only [RepL] at r
    subst h r
    cases e
    exact .nil
  | d :: ds, vs, us, ks, h, r, e => by
    obtain ⟨k, r', h1, h2, rfl⟩ := nkL_cons h
    simp only [RepL] at r
    obtain ⟨v, rs, rfl, q1, q2⟩ := r
    cases e with
    | cons e1 e2 => exact .cons (nest_of I d v _ k h1 q1 e1) (nest_ofL I ds rs _ r' h2 q2 e2)
end
theorem is_of (I : Inv X pins σ H s) {k : D} {c : NestedKey} {b : Addr} (h : keyOk true k = true) (hc : nk k = some c) (r : Rep X.K A H k (.ref b)) : (nestedKind X.prog X.w).is s.heap c b := by
  obtain ⟨c', h1, h2⟩ := keyT h
  rw [hc] at h1
  cases h1
  exact ⟨nest_of I k _ _ c hc r rfl, h2⟩
/-! ### look-ups -/
abbrev PT3 : List (NestedKey × Addr × V) → List (NestedKey × Addr × Value) → Prop := Paired fun p q => p.1 = q.1 ∧ p.2.1 = q.2.1 ∧ RelV p.2.2 q.2.2
theorem find_T {K : Frag} {k : D} {c : NestedKey} (hc : nk k = some c) : ∀ {kvs : List (D × D)} {es : List (NestedKey × Addr × V)} {xs : List (NestedKey × Addr × Value)}, RepT K A H kvs es → PT3 es xs →
    match find k kvs with | some d => ∃ b u v, atKey xs c = some (b, u) ∧ RelV v u ∧ Rep K A H d v | none => atKey xs c = none
  | [], es, xs, r, p => by
    simp only [RepT] at r
    subst r
    cases p
    rfl
  | (k0, d0) :: kvs, es, xs, r, p => by
    simp only [RepT] at r
    obtain ⟨c0, b, v, q, rfl, ⟨h0, _⟩, h1, h2, h3⟩ := r
    cases p with
    | @cons _ y _ ys hp t =>
      obtain ⟨p1, p2, p3⟩ := hp
      simp only [find, nk_eq h0 hc]
      have p1' : c0 = y.1 := p1
      by_cases e : c0 = c
      · rw [decide_eq_true e]
        refine ⟨y.2.1, y.2.2, v, ?_, p3, h2⟩
        unfold atKey
        rw [List.find?_cons_of_pos (by simpa using p1'.symm.trans e)]
        rfl
      · rw [decide_eq_false e]
        have e2 : atKey (y :: ys) c = atKey ys c := by
          unfold atKey
          rw [List.find?_cons_of_neg (by simpa using fun z => e (p1'.trans z))]
        rw [e2]
        exact find_T hc h3 t
theorem find_K {K : Frag} {k : D} {c : Key} (hc : kvK k = some c) : ∀ {kvs : List (D × D)} {ks : List (Key × V)}, RepK K A H kvs ks →
    match find k kvs with | some d => ∃ v, valV ks c = some v ∧ Rep K A H d v | none => valV ks c = none
  | [], ks, r => by
    simp only [RepK] at r
    subst r
    rfl
  | (k0, d0) :: kvs, ks, r => by
    simp only [RepK] at r
    obtain ⟨c0, v, q, rfl, h0, h2, h3⟩ := r
    simp only [find, kv_eq h0 hc]
    by_cases e : c0 = c
    · rw [decide_eq_true e, valV_pos (p := (c0, v)) e]
      exact ⟨v, rfl, h2⟩
    · rw [decide_eq_false e, valV_neg (p := (c0, v)) e]
      exact find_K hc h3
theorem dic_rd (I : Inv X pins σ H s) {es : E3} {kvs : List (D × D)} (e : H a = some (dicT a es)) (r : RepT X.K A H kvs es.1) : es.1.length ≤ sizeLine ∧ (a == sysModules) = false ∧ ∃ xs, PT3 es.1 xs ∧ s.heap.DictOfH (nestedKind X.prog X.w) a xs ∧
    ∃ o en ep, s.heap.get? a = some o ∧ o.ExactDict ∧ o.data = .dict en ep ∧ (∀ w : World, en.toList = xs.map (entW w)) ∧ (xs.map (·.1)).Nodup := by
  obtain ⟨⟨h1, h2, xs, h3, o, g1, g2, g3, g4, g5⟩, _, _⟩ := (show ObjOk X.prog X.w H s.heap a (dicT a es) from I.hok a _ e)
  refine ⟨h2, h1, xs, h3, ⟨o, _, _, g1, g2, g3, g4 X.w, ?_, g5⟩, o, _, _, g1, g2, g3, g4, g5⟩
  have all : ∀ {kvs : List (D × D)} {es : List (NestedKey × Addr × V)} {xs : List (NestedKey × Addr × Value)}, RepT X.K A H kvs es → PT3 es xs → ∀ x ∈ xs, (nestedKind X.prog X.w).is s.heap x.1 x.2.1 := by
    intro kvs
    induction kvs with
    | nil =>
      intro es xs r p
      simp only [RepT] at r
      subst r
      cases p
      intro x hx
      cases hx
    | cons kd kvs ih =>
      intro es xs r p
      obtain ⟨k0, d0⟩ := kd
      simp only [RepT] at r
      obtain ⟨c0, b, v, q, rfl, ⟨h0, hk0⟩, h1, h2, h3⟩ := r
      cases p with
      | cons hp t =>
        obtain ⟨p1, p2, p3⟩ := hp
        intro x hx
        rcases List.mem_cons.mp hx with z | hx
        · subst z
          have := is_of I hk0 h0 h1
          have p1' : c0 = x.1 := p1
          have p2' : b = x.2.1 := p2
          rw [p1', p2'] at this
          exact this
        · exact ih h3 t x hx
  exact all r h3
theorem dic_type (I : Inv X pins σ H s) {t : Bool} {kvs : List (D × D)} (g : DicAt X.K A H a t kvs) : s.TypeIs (.ref a) "dict" := by
  rcases g with ⟨rfl, ks, e, r⟩ | ⟨rfl, es, e, r⟩
  · obtain ⟨_, _, vs, _, dd⟩ := dk_of I.hok e
    exact dd.typeIs
  · obtain ⟨z, hsm, xs, rel, dd, _⟩ := dic_rd I e r
    exact dd.typeIs
/-- len(d) -/
theorem dic_len {B : Around} {E : Value → Shared → Prop} {t : Bool} {kvs : List (D × D)} {Q : Value → Shared → Prop} (I : Inv X pins σ H s) (g : DicAt X.K A H a t kvs) (hl : ∀ {kvs : List (D × D)} {es : List (NestedKey × Addr × V)}, RepT X.K A H kvs es → es.length = kvs.length) (hl2 : ∀ {kvs : List (D × D)} {es : List (Key × V)}, RepK X.K A H kvs es → es.length = kvs.length)
    (h : ∀ t' s', Inv X pins σ H s' → Q (.int kvs.length t') s') : wpAny (model X.prog X.w) B (PySem.call (.builtin "len") [.ref a]) Q E s := by
  rcases g with ⟨rfl, ks, e, r⟩ | ⟨rfl, es, e, r⟩
  · refine d_len I (.inl e) fun t' s' I' => ?_
    rw [hl2 r]
    exact h t' s' I'
  · obtain ⟨z, hsm, xs, rel, dd, _⟩ := dic_rd I e r
    have hm : s.heap.DictKeyed (nestedKind X.prog X.w) a (pairsH xs) := ⟨xs, dd, rfl⟩
    have h1 : (pairsH xs).length = kvs.length := by rw [pairsH_length, ← Paired.length rel, hl r]
    refine PyProof.Rows.call_len_slot (n := (pairsH xs).length) hm.typeIs F.slot_dict_len (fun Q' hq => len_keyed hsm hm hq) (by omega) ?_ ?_
    · have hz := sizeLine_eq
      have := Paired.length rel
      rw [pairsH_length]
      omega
    · rw [h1]
      exact h _ _ ((I.tok _).tok _)
/-- d[k], there -/
theorem dic_get {B : Around} {E : Value → Shared → Prop} {t : Bool} {kvs : List (D × D)} {k d : D} {y : V} {u : Value} {Q : Value → Shared → Prop} (hu : B.units + 16 < cLine) (I : Inv X pins σ H s) (g : DicAt X.K A H a t kvs) (hk : keyOk t k = true) (rk : Rep X.K A H k y) (ry : RelV y u)
    (hf : find k kvs = some d) (h : ∀ v w' s', Inv X pins σ H s' → RelV v w' → Rep X.K A H d v → Q w' s') : wpAny (model X.prog X.w) B (getItem (.ref a) u) Q E s := by
  rcases g with ⟨rfl, ks, e, r⟩ | ⟨rfl, es, e, r⟩
  · obtain ⟨c, hc⟩ := keyK hk
    have q := find_K hc r
    rw [hf] at q
    obtain ⟨v, hv, rv⟩ := q
    have hy := kv_rep hc rk
    subst hy
    refine d_getItem (by omega) I (hv ▸ DGet.k e) ry fun w' s' I' r' => h v w' s' I' r' rv
  · obtain ⟨c, hc, hd⟩ := keyT hk
    obtain ⟨z, hsm, xs, rel, dd, _⟩ := dic_rd I e r
    have q := find_T hc r rel
    rw [hf] at q
    obtain ⟨b, u', v, hat, rv, rd⟩ := q
    have hk' := hk
    cases k with
    | tup xs' =>
      simp only [Rep] at rk
      obtain ⟨b', vs, rfl, q1, q2⟩ := rk
      cases (show u = Value.ref b' from ry)
      refine wpAny_getItem_heap (by show B.units + 1 + 8 < cLine; omega) (is_of (A := A) I hk' hc (by simp only [Rep]; exact ⟨b', vs, rfl, q1, q2⟩)) dd hat ?_
      exact h v u' _ (I.tok _) rv rd
    | _ => simp [keyOk] at hk
theorem dic_in {B : Around} {E : Value → Shared → Prop} {t : Bool} {kvs : List (D × D)} {k : D} {y : V} {u : Value} {Q : Value → Shared → Prop} (hu : B.units + 16 < cLine) (I : Inv X pins σ H s) (g : DicAt X.K A H a t kvs) (hk : keyOk t k = true) (rk : Rep X.K A H k y) (ry : RelV y u)
    (h : ∀ s', Inv X pins σ H s' → Q (.bool (find k kvs).isSome) s') : wpAny (model X.prog X.w) B (compareOp .In u (.ref a)) Q E s := by
  rcases g with ⟨rfl, ks, e, r⟩ | ⟨rfl, es, e, r⟩
  · obtain ⟨c, hc⟩ := keyK hk
    have q := find_K hc r
    have hy := kv_rep hc rk
    subst hy
    refine d_in (by omega) I (DGet.k e) ry fun s' I' => ?_
    have z : (valV ks c).isSome = (find k kvs).isSome := by
      cases hf : find k kvs with
      | none => rw [hf] at q; rw [show valV ks c = none from q]; rfl
      | some d => rw [hf] at q; obtain ⟨v, hv, _⟩ := q; rw [hv]; rfl
    rw [z]
    exact h s' I'
  · obtain ⟨c, hc, hd⟩ := keyT hk
    obtain ⟨z, hsm, xs, rel, dd, _⟩ := dic_rd I e r
    have q := find_T hc r rel
    have hk' := hk
    cases k with
    | tup xs' =>
      simp only [Rep] at rk
      obtain ⟨b', vs, rfl, q1, q2⟩ := rk
      cases (show u = Value.ref b' from ry)
      refine wpAny_in_heap (by show B.units + 1 + 8 < cLine; omega) (is_of (A := A) I hk' hc (by simp only [Rep]; exact ⟨b', vs, rfl, q1, q2⟩)) hsm dd ?_
      have z : (atKey xs c).isSome = (find (.tup xs') kvs).isSome := by
        cases hf : find (.tup xs') kvs with
        | none => rw [hf] at q; rw [show atKey xs c = none from q]; rfl
        | some d => rw [hf] at q; obtain ⟨b, u', v, hv, _⟩ := q; rw [hv]; rfl
      rw [z]
      exact h _ (I.tok _)
    | _ => simp [keyOk] at hk
theorem dic_notIn {B : Around} {E : Value → Shared → Prop} {t : Bool} {kvs : List (D × D)} {k : D} {y : V} {u : Value} {Q : Value → Shared → Prop} (hu : B.units + 16 < cLine) (I : Inv X pins σ H s) (g : DicAt X.K A H a t kvs) (hk : keyOk t k = true) (rk : Rep X.K A H k y) (ry : RelV y u)
    (h : ∀ s', Inv X pins σ H s' → Q (.bool (!(find k kvs).isSome)) s') : wpAny (model X.prog X.w) B (compareOp .NotIn u (.ref a)) Q E s := by
  rcases g with ⟨rfl, ks, e, r⟩ | ⟨rfl, es, e, r⟩
  · obtain ⟨c, hc⟩ := keyK hk
    have q := find_K hc r
    have hy := kv_rep hc rk
    subst hy
    refine d_notIn (by omega) I (DGet.k e) ry fun s' I' => ?_
    have z : (valV ks c).isSome = (find k kvs).isSome := by
      cases hf : find k kvs with
      | none => rw [hf] at q; rw [show valV ks c = none from q]; rfl
      | some d => rw [hf] at q; obtain ⟨v, hv, _⟩ := q; rw [hv]; rfl
    rw [z]
    exact h s' I'
  · obtain ⟨c, hc, hd⟩ := keyT hk
    obtain ⟨z, hsm, xs, rel, dd, _⟩ := dic_rd I e r
    have q := find_T hc r rel
    have hk' := hk
    cases k with
    | tup xs' =>
      simp only [Rep] at rk
      obtain ⟨b', vs, rfl, q1, q2⟩ := rk
      cases (show u = Value.ref b' from ry)
      refine PyProof.Rows.wpAny_notIn_heap (by show B.units + 1 + 8 < cLine; omega) (is_of (A := A) I hk' hc (by simp only [Rep]; exact ⟨b', vs, rfl, q1, q2⟩)) hsm dd ?_
      have z : (atKey xs c).isSome = (find (.tup xs') kvs).isSome := by
        cases hf : find (.tup xs') kvs with
        | none => rw [hf] at q; rw [show atKey xs c = none from q]; rfl
        | some d => rw [hf] at q; obtain ⟨b, u', v, hv, _⟩ := q; rw [hv]; rfl
      rw [z]
      exact h _ (I.tok _)
    | _ => simp [keyOk] at hk
/-! ### stores -/
def putE (es : List (NestedKey × Addr × V)) (c : NestedKey) (b : Addr) (v : V) : List (NestedKey × Addr × V) :=
  if es.any (fun x => decide (x.1 = c)) then es.map (fun x => if x.1 = c then (x.1, x.2.1, v) else x) else es ++ [(c, b, v)]
theorem map_no {α β : Type} [DecidableEq α] (c : α) (f : α × β → α × β) : ∀ (es : List (α × β)), ¬ c ∈ es.map (·.1) → es.map (fun x => if x.1 = c then f x else x) = es
  | [], _ => rfl
  | x :: es, h => by
    simp only [List.map_cons, List.mem_cons, not_or] at h
    simp only [List.map_cons]
    rw [if_neg fun z => h.1 z.symm, map_no c f es h.2]
theorem put_T {K : Frag} {k d : D} {c : NestedKey} {b : Addr} {v : V} (hc : nk k = some c) (hk : keyOk true k = true) (rk : Rep K A H k (.ref b)) (rd : Rep K A H d v) : ∀ {kvs : List (D × D)} {es : List (NestedKey × Addr × V)}, RepT K A H kvs es → (es.map (·.1)).Nodup →
    RepT K A H (putD k d kvs) (putE es c b v)
  | [], es, r, _ => by
    simp only [RepT] at r
    subst r
    show RepT K A H [(k, d)] [(c, b, v)]
    simp only [RepT]
    exact ⟨c, b, v, [], rfl, ⟨hc, hk⟩, rk, rd, rfl⟩
  | (k0, d0) :: kvs, es, r, nd => by
    simp only [RepT] at r
    obtain ⟨c0, b0, v0, q, rfl, ⟨h0, hk0⟩, h1, h2, h3⟩ := r
    simp only [List.map_cons, List.nodup_cons] at nd
    simp only [putD, nk_eq h0 hc]
    by_cases e : c0 = c
    · rw [decide_eq_true e, if_pos rfl]
      have e1 : putE ((c0, b0, v0) :: q) c b v = (c0, b0, v) :: q := by
        unfold putE
        rw [if_pos (by simp [e])]
        simp only [List.map_cons]
        rw [if_pos e, map_no c (fun x => (x.1, x.2.1, v)) q (by rw [← e]; exact nd.1)]
      rw [e1]
      simp only [RepT]
      exact ⟨c0, b0, v, q, rfl, ⟨h0, hk0⟩, h1, rd, h3⟩
    · rw [decide_eq_false e, if_neg (by decide)]
      have e1 : putE ((c0, b0, v0) :: q) c b v = (c0, b0, v0) :: putE q c b v := by
        unfold putE
        simp only [List.any_cons, decide_eq_false e, Bool.false_or]
        split
        · simp only [List.map_cons]
          rw [if_neg e]
        · rfl
      rw [e1]
      simp only [RepT]
      exact ⟨c0, b0, v0, _, rfl, ⟨h0, hk0⟩, h1, h2, put_T hc hk rk rd h3 nd.2⟩
theorem put_K {K : Frag} {k d : D} {c : Key} {v : V} (hc : kvK k = some c) (rd : Rep K A H d v) : ∀ {kvs : List (D × D)} {ks : List (Key × V)}, RepK K A H kvs ks → (ks.map (·.1)).Nodup → RepK K A H (putD k d kvs) (putK ks c v)
  | [], ks, r, _ => by
    simp only [RepK] at r
    subst r
    show RepK K A H [(k, d)] [(c, v)]
    simp only [RepK]
    exact ⟨c, v, [], rfl, hc, rd, rfl⟩
  | (k0, d0) :: kvs, ks, r, nd => by
    simp only [RepK] at r
    obtain ⟨c0, v0, q, rfl, h0, h2, h3⟩ := r
    simp only [List.map_cons, List.nodup_cons] at nd
    simp only [putD, kv_eq h0 hc]
    by_cases e : c0 = c
    · rw [decide_eq_true e, if_pos rfl]
      have e1 : putK ((c0, v0) :: q) c v = (c0, v) :: q := by
        unfold putK
        rw [if_pos (by simp [e])]
        simp only [List.map_cons]
        rw [if_pos e, map_no c (fun x => (x.1, v)) q (by rw [← e]; exact nd.1)]
      rw [e1]
      simp only [RepK]
      exact ⟨c0, v, q, rfl, h0, rd, h3⟩
    · rw [decide_eq_false e, if_neg (by decide)]
      have e1 : putK ((c0, v0) :: q) c v = (c0, v0) :: putK q c v := by
        unfold putK
        simp only [List.any_cons, decide_eq_false e, Bool.false_or]
        split
        · simp only [List.map_cons]
          rw [if_neg e]
        · rfl
      rw [e1]
      simp only [RepK]
      exact ⟨c0, v0, _, rfl, h0, h2, put_K hc rd h3 nd.2⟩
theorem pt_keys : ∀ {es : List (NestedKey × Addr × V)} {xs : List (NestedKey × Addr × Value)}, PT3 es xs → es.map (·.1) = xs.map (·.1)
  | _, _, .nil => rfl
  | _, _, .cons h t => by
    simp only [List.map_cons]
    rw [h.1, pt_keys t]
theorem pt_any {es : List (NestedKey × Addr × V)} {xs : List (NestedKey × Addr × Value)} (p : PT3 es xs) (c : NestedKey) : (es.any fun x => decide (x.1 = c)) = (atKey xs c).isSome := by
  induction p with
  | nil => rfl
  | @cons x y es xs h t ih =>
    simp only [List.any_cons]
    have h1 : x.1 = y.1 := h.1
    by_cases e : y.1 = c
    · have e2 : atKey (y :: xs) c = some y.2 := by
        unfold atKey
        rw [List.find?_cons_of_pos (by simpa using e)]
        rfl
      rw [e2, h1, decide_eq_true e]
      rfl
    · have e2 : atKey (y :: xs) c = atKey xs c := by
        unfold atKey
        rw [List.find?_cons_of_neg (by simpa using e)]
      rw [e2, h1, decide_eq_false e, Bool.false_or, ih]
theorem pt_put {es : List (NestedKey × Addr × V)} {xs : List (NestedKey × Addr × Value)} (p : PT3 es xs) (c : NestedKey) (b : Addr) {v : V} {u : Value} (r : RelV v u) : PT3 (putE es c b v) (storedH xs c b u) := by
  unfold putE storedH
  rw [pt_any p]
  split
  · rename_i h
    clear h
    induction p with
    | nil => exact .nil
    | @cons x y es xs h t ih =>
      simp only [List.map_cons]
      refine .cons ?_ ih
      unfold putAt
      have h1 : x.1 = y.1 := h.1
      by_cases e : y.1 = c
      · rw [if_pos (h1.trans e), if_pos e]
        exact ⟨h1, h.2.1, r⟩
      · rw [if_neg fun z => e (h1.symm.trans z), if_neg e]
        exact h
  · exact Paired.snoc p ⟨rfl, rfl, r⟩
theorem putE_len (es : List (NestedKey × Addr × V)) (c : NestedKey) (b : Addr) (v : V) : (putE es c b v).length ≤ es.length + 1 := by
  unfold putE
  split <;> simp
theorem RepT.len {K : Frag} : ∀ {kvs : List (D × D)} {es : List (NestedKey × Addr × V)}, RepT K A H kvs es → es.length = kvs.length
  | [], es, r => by
    simp only [RepT] at r
    subst r
    rfl
  | (k, d) :: kvs, es, r => by
    simp only [RepT] at r
    obtain ⟨c0, b0, v0, q, rfl, _, _, _, h3⟩ := r
    simp [RepT.len h3]
theorem RepK.len {K : Frag} : ∀ {kvs : List (D × D)} {es : List (Key × V)}, RepK K A H kvs es → es.length = kvs.length
  | [], es, r => by
    simp only [RepK] at r
    subst r
    rfl
  | (k, d) :: kvs, es, r => by
    simp only [RepK] at r
    obtain ⟨c0, v0, q, rfl, _, _, h3⟩ := r
    simp [RepK.len h3]
theorem RepT.hash {K : Frag} (w w' : World) : ∀ {kvs : List (D × D)} {es : List (NestedKey × Addr × V)}, RepT K A H kvs es → ∀ x ∈ es, x.1.hash w = x.1.hash w'
  | [], es, r, x, hx => by
    simp only [RepT] at r
    subst r
    cases hx
  | (k, d) :: kvs, es, r, x, hx => by
    simp only [RepT] at r
    obtain ⟨c0, b0, v0, q, rfl, ⟨h0, _⟩, _, _, h3⟩ := r
    rcases List.mem_cons.mp hx with z | hx
    · subst z
      exact nk_hash w w' k c0 h0
    · exact RepT.hash w w' h3 x hx
theorem ent_any {w w' : World} : ∀ {es : List (NestedKey × Addr × V)} {xs : List (NestedKey × Addr × Value)}, PT3 es xs → (∀ x ∈ es, x.1.hash w = x.1.hash w') → xs.map (entW w) = xs.map (entW w')
  | _, _, .nil, _ => rfl
  | _, _, @Paired.cons _ _ _ x y es xs h t, hh => by
    simp only [List.map_cons]
    rw [ent_any t fun z hz => hh z (List.mem_cons_of_mem _ hz)]
    have h1 : x.1 = y.1 := h.1
    have h2 := hh x List.mem_cons_self
    rw [h1] at h2
    unfold entW
    rw [h2]
/-- d[k] = v -/
def rSetN (K : Frag) : TSet := fun o i v H Q => ∃ A t kvs k d a, o = .ref a ∧ A a ∧ DicAt K A H a t kvs ∧ Rep K A H k i ∧ Rep K A H d v ∧ keyOk t k = true ∧ kvs.length < SZ ∧ ∀ ob, DicAt K A (upd H a ob) a t (putD k d kvs) → Q (upd H a ob)
theorem set_dic (hu : X.A.units + 16 < cLine) : PSet X (rSetN X.K) := by
  intro pins s σ H o i v ov iv u Q I ro ri rv ⟨A, t, kvs, k, d, a, eo, hA, g, rk, rd, hk, hl, q⟩
  subst eo
  cases (show ov = Value.ref a from ro)
  rcases g with ⟨rfl, ks, e, r⟩ | ⟨rfl, es, e, r⟩
  · obtain ⟨c, hc⟩ := keyK hk
    have hy := kv_rep hc rk
    subst hy
    have hlen := r.len
    have nd : (ks.map (·.1)).Nodup := by
      obtain ⟨_, _, vs, rel, _, _, _, _, _, _, _, _, nd⟩ := dk_of I.hok e
      rw [rel.keys]
      exact nd
    refine d_setItem (by omega) I (DPut.k e (by rw [hlen]; exact hl)) ri rv fun s' I' => ⟨_, I', q _ ?_⟩
    have mv : Mv A H A (upd H a (.dK (putK ks c v))) := ⟨fun b hb => .inl hb, fun b ob e3 hb => by
      rw [upd_ne]
      · exact e3
      · intro z
        subst z
        rcases hb with hb | hb
        · exact hb hA
        · rw [e] at e3
          cases e3
          exact hb⟩
    exact .inl ⟨rfl, _, upd_same, RepK.move mv _ _ (put_K hc rd r nd)⟩
  · obtain ⟨c, hc, hd⟩ := keyT hk
    obtain ⟨z, hsm, xs, rel, dd, o0, en, ep, g1, g2, g3, g4, g5⟩ := dic_rd I e r
    have hk' := hk
    have nd : (es.1.map (·.1)).Nodup := by
      rw [pt_keys rel]
      exact g5
    cases k with
    | tup xs' =>
      have rk0 := rk
      simp only [Rep] at rk
      obtain ⟨b', vs, rfl, q1, q2⟩ := rk
      cases (show iv = Value.ref b' from ri)
      have hlen := r.len
      have hsz : SZ = sizeLine := rfl
      have hz : xs.length ≤ sizeLine := by rw [← Paired.length rel]; exact z
      have rp := put_T hc hk rk0 rd r nd
      have pp := pt_put rel c b' rv
      refine wpAny_setItem_heap (hsz := hz) (by show X.A.units + 1 + 8 < cLine; omega) (is_of (A := A) I hk hc rk0) dd fun h' dd' hs => ?_
      obtain ⟨q0, en', ep', hq, h2, h3, h4, _, h5⟩ := dd'
      have mv : Mv A H A (upd H a (dicT a (putE es.1 c b' v, en', ep'))) := ⟨fun b hb => .inl hb, fun b ob e3 hb => by
        rw [upd_ne]
        · exact e3
        · intro z
          subst z
          rcases hb with hb | hb
          · exact hb hA
          · rw [e] at e3
            cases e3
            exact hb⟩
      refine ⟨upd H a (dicT a (putE es.1 c b' v, en', ep')), ?_, q _ (.inr ⟨rfl, _, upd_same, RepT.move mv _ _ rp⟩)⟩
      refine d_write I (by rw [e]; exact True.intro) hs ⟨q0, hq⟩ ⟨⟨hsm, ?_, _, pp, q0, hq, h2, h3, fun w => ?_, h5⟩, ⟨q0, hq⟩, ?_⟩
      · have := putE_len es.1 c b' v
        show (putE es.1 c b' v).length ≤ sizeLine
        omega
      · have h4' : en'.toList = (storedH xs c b' u).map (entW X.w) := h4
        rw [h4']
        exact ent_any pp (rp.hash X.w w)
      · rintro h1 h2 ⟨y1, y2, xs', y3, o', z1, z2⟩ hk2
        exact ⟨y1, y2, xs', y3, o', hk2 _ z1, z2⟩
    | _ => simp [keyOk] at hk
/-- of a list or a dict -/
def rSetX (K : Frag) : TSet := fun o i v H Q => rSetL o i v H Q ∨ rSetN K o i v H Q
theorem set_any (hu : X.A.units + 16 < cLine) : PSet X (rSetX X.K) := fun pins s σ H o i v ov iv u Q I ro ri rv h => by
  rcases h with h | h
  · exact set_list pins s σ H o i v ov iv u Q I ro ri rv h
  · exact set_dic hu pins s σ H o i v ov iv u Q I ro ri rv h
end
end Py
/-! Operators. -/
namespace Py
open PySem L2
/-! ### data of the library -/
mutual
def toPy : D → PyData
  | .non => .none
  | .bl b => .bool b
  | .int i => .int i
  | .str s => .str (Str.ofString s)
  | .tup xs => .tuple (toPyL xs)
  | .lst xs => .list (toPyL xs)
  | .dic _ _ => .none
  | .ins _ _ => .none
  | .drw _ => .none
def toPyL : List D → List PyData
  | [] => []
  | d :: r => toPy d :: toPyL r
end
theorem str_len (s : String) : (Str.ofString s).length = s.length := by
  rw [Str.ofString_eq_toList]
  simp [Str.length, String.length_toList]
theorem str_ok (s : String) : PySem.PyData.strOk (Str.ofString s) = true := by
  rw [Str.ofString_eq_toList]
  simp only [PySem.PyData.strOk, List.size_toArray, List.all_toArray', List.all_map]
  refine List.all_eq_true.mpr fun c _ => ?_
  simp only [Function.comp, decide_eq_true_eq]
  rcases c.valid with h | h
  · have h2 : c.toNat < 55296 := h
    omega
  · have h2 : c.toNat < 1114112 := h.2
    omega
mutual
theorem dp_of {K : Frag} {H : Hp} : ∀ (n : Nat) (d : D) (v : V), pl n d = true → Rep K (fun _ => False) H d v → Dp K H v (toPy d) ∧ (toPy d).canLay0 = true ∧ (toPy d).depth ≤ n
  | n, .non, v, _, h => by
    simp only [Rep] at h
    subst h
    exact ⟨.non, by simp [toPy, PyData.canLay0], by simp [toPy, PyData.depth]⟩
  | n, .bl b, v, _, h => by
    simp only [Rep] at h
    subst h
    exact ⟨.bl b, by simp [toPy, PyData.canLay0], by simp [toPy, PyData.depth]⟩
  | n, .int b, v, _, h => by
    simp only [Rep] at h
    subst h
    exact ⟨.int b, by simp [toPy, PyData.canLay0], by simp [toPy, PyData.depth]⟩
  | n, .str b, v, _, h => by
    simp only [Rep] at h
    subst h
    exact ⟨.str _, by simp [toPy, PyData.canLay0, str_ok], by simp [toPy, PyData.depth]⟩
  | n + 1, .tup xs, v, p, h => by
    simp only [Rep] at h
    obtain ⟨a, vs, rfl, q, r⟩ := h
    simp only [pl] at p
    obtain ⟨h1, h2, h3⟩ := dp_ofL n xs vs p r
    refine ⟨?_, by simpa [toPy, PyData.canLay0] using h2, by simp only [toPy, PyData.depth]; omega⟩
    simp only [toPy]
    exact .tup q h1
  | n + 1, .lst xs, v, p, h => by
    simp only [Rep] at h
    obtain ⟨a, vs, rfl, _, q, r⟩ := h
    simp only [pl] at p
    obtain ⟨h1, h2, h3⟩ := dp_ofL n xs vs p r
    refine ⟨?_, by simpa [toPy, PyData.canLay0] using h2, by simp only [toPy, PyData.depth]; omega⟩
    simp only [toPy]
    exact .lst (.inl q) h1
  | 0, .tup xs, v, p, h => by simp [pl] at p
  | 0, .lst xs, v, p, h => by simp [pl] at p
  | n, .dic _ _, v, p, h => by cases n <;> simp [pl] at p
  | n, .ins _ _, v, p, h => by cases n <;> simp [pl] at p
  | n, .drw _, v, p, h => by cases n <;> simp [pl] at p
theorem dp_ofL {K : Frag} {H : Hp} : ∀ (n : Nat) (ds : List D) (vs : List V), ds.all (pl n) = true → RepL K (fun _ => False) H ds vs → DpAll K H vs (toPyL ds) ∧ PyData.canLayAll0 (toPyL ds) = true ∧ PyData.depthAll (toPyL ds) ≤ n
  | n, [], vs, _, h => by
    simp only [RepL] at h
    subst h
    exact ⟨.nil, by simp [toPyL, PyData.canLayAll0], by simp [toPyL, PyData.depthAll]⟩
  | n, d :: ds, vs, p, h => by
    simp only [RepL] at h
    obtain ⟨v, r, rfl, h1, h2⟩ := h
    simp only [List.all_cons, Bool.and_eq_true] at p
    obtain ⟨a1, a2, a3⟩ := dp_of n d v p.1 h1
    obtain ⟨b1, b2, b3⟩ := dp_ofL n ds r p.2 h2
    refine ⟨.cons a1 b1, by simp [toPyL, PyData.canLayAll0, a2, b2], by simp only [toPyL, PyData.depthAll]; omega⟩
end
mutual
theorem eqv_py : ∀ (d e : D) (n m : Nat), pl n d = true → pl m e = true → PyData.eqv (toPy d) (toPy e) = eqv d e
  | .non, e, n, m, _, q => by cases e <;> first | (cases m <;> simp [pl] at q; done) | simp [toPy, PyData.eqv, eqv]
  | .bl b, e, n, m, _, _ => by cases e <;> simp [toPy, PyData.eqv, eqv, b2i]
  | .int b, e, n, m, _, _ => by cases e <;> simp [toPy, PyData.eqv, eqv, b2i]
  | .str b, e, n, m, _, _ => by
    cases e with
    | str c =>
      simp only [toPy, PyData.eqv, eqv]
      by_cases q : b = c
      · subst q
        simp
      · rw [beq_eq_false_iff_ne.mpr q]
        exact beq_eq_false_iff_ne.mpr fun z => q (ofS_inj z)
    | _ => simp [toPy, PyData.eqv, eqv]
  | .tup xs, e, n, m, p, q => by
    cases e with
    | tup ys =>
      cases n with
      | zero => simp [pl] at p
      | succ n =>
        cases m with
        | zero => simp [pl] at q
        | succ m =>
          simp only [toPy, PyData.eqv, eqv]
          exact eqv_pyL xs ys n m (by simpa only [pl] using p) (by simpa only [pl] using q)
    | _ => simp [toPy, PyData.eqv, eqv]
  | .lst xs, e, n, m, p, q => by
    cases e with
    | lst ys =>
      cases n with
      | zero => simp [pl] at p
      | succ n =>
        cases m with
        | zero => simp [pl] at q
        | succ m =>
          simp only [toPy, PyData.eqv, eqv]
          exact eqv_pyL xs ys n m (by simpa only [pl] using p) (by simpa only [pl] using q)
    | _ => simp [toPy, PyData.eqv, eqv]
  | .dic _ _, e, n, m, p, _ => by cases n <;> simp [pl] at p
  | .ins _ _, e, n, m, p, _ => by cases n <;> simp [pl] at p
  | .drw _, e, n, m, p, _ => by cases n <;> simp [pl] at p
theorem eqv_pyL : ∀ (ds es : List D) (n m : Nat), ds.all (pl n) = true → es.all (pl m) = true → PyData.eqvAll (toPyL ds) (toPyL es) = eqv.eqvL ds es
  | [], [], _, _, _, _ => by simp [toPyL, PyData.eqvAll, eqv.eqvL]
  | [], _ :: _, _, _, _, _ => by simp [toPyL, PyData.eqvAll, eqv.eqvL]
  | _ :: _, [], _, _, _, _ => by simp [toPyL, PyData.eqvAll, eqv.eqvL]
  | d :: ds, e :: es, n, m, p, q => by
    simp only [List.all_cons, Bool.and_eq_true] at p q
    simp only [toPyL, PyData.eqvAll, eqv.eqvL]
    rw [eqv_py d e n m p.1 q.1, eqv_pyL ds es n m p.2 q.2]
end
/-! ### two operands, one operand -/
def r2 (K : Frag) (f : D → D → Res D) : R2 := fun x y H Q => ∃ A d1 d2 d, RepW K A H d1 x ∧ RepW K A H d2 y ∧ (∀ a, A a → H a ≠ none) ∧ f d1 d2 = .ok d ∧ ∀ v H', Same H H' → Rep K A H' d v → Q v H'
def r1 (K : Frag) (f : D → Res D) : V → Hp → VK → Prop := fun x H Q => ∃ A d1 d, RepW K A H d1 x ∧ (∀ a, A a → H a ≠ none) ∧ f d1 = .ok d ∧ ∀ v H', Same H H' → Rep K A H' d v → Q v H'
/-- no error, nothing drawn -/
def Res.isP {α : Type} : Res α → Bool
  | .ok _ => true | .stuck => true | _ => false
def NoEx2 (f : D → D → Res D) : Prop := ∀ x y (_ _ : Unit), (f x y).isP = true
def NoEx1 (f : D → Res D) : Prop := ∀ x (_ _ : Unit), (f x).isP = true
theorem NoEx2.exc {f : D → D → Res D} (h : NoEx2 f) {x y : D} {c : String} {fs : List (String × D)} (e : f x y = .exc c fs) : False := by
  have := h x y () ()
  rw [e] at this
  cases this
theorem NoEx2.pick {f : D → D → Res D} (h : NoEx2 f) {x y : D} {n : Nat} {k : Nat → Res D} (e : f x y = .pick n k) : False := by
  have := h x y () ()
  rw [e] at this
  cases this
theorem NoEx1.exc {f : D → Res D} (h : NoEx1 f) {x : D} {c : String} {fs : List (String × D)} (e : f x = .exc c fs) : False := by
  have := h x () ()
  rw [e] at this
  cases this
theorem NoEx1.pick {f : D → Res D} (h : NoEx1 f) {x : D} {n : Nat} {k : Nat → Res D} (e : f x = .pick n k) : False := by
  have := h x () ()
  rw [e] at this
  cases this
theorem leaf_bind {α β : Type} {r : Res α} {f : α → Res β} {b : β} (h : Res.leaf b (r >>= f)) : ∃ a, Res.leaf a r ∧ Res.leaf b (f a) := by
  induction r with
  | ok a => exact ⟨a, rfl, h⟩
  | exc c fs => exact h.elim
  | stuck => exact h.elim
  | pick n k ih =>
    rw [bind_pick] at h
    obtain ⟨i, hi, q⟩ := h
    obtain ⟨a, h1, h2⟩ := ih i q
    exact ⟨a, ⟨i, hi, h1⟩, h2⟩
theorem leaf_isP {α : Type} {r : Res α} {d : α} (h : r.isP = true) (l : Res.leaf d r) : r = .ok d := by
  cases r with
  | ok a => exact congrArg Res.ok l
  | exc c fs => exact l.elim
  | stuck => exact l.elim
  | pick n k => cases h
theorem r2_of {K : Frag} {A : AS} {W : WX} {O : OW} {σ : L2.St} {H0 : Base} {f : D → D → Res D} (hf : NoEx2 f) {x y : V} {H : Hp} {Q : VK} {d1 d2 : D} (h1 : RepW K A H d1 x) (h2 : RepW K A H d2 y) (ha : ∀ a, A a → H a ≠ none)
    {bad : String → List (String × D) → Prop} (h : Out (f d1 d2) (fun d => ∀ v H', Same H H' → Rep K A H' d v → Q v H') bad) : r2 K f x y H Q := by
  cases e : f d1 d2 with
  | ok d =>
    rw [e] at h
    exact ⟨A, d1, d2, d, h1, h2, ha, e, h⟩
  | exc c fs => exact (hf.exc e).elim
  | pick _ _ => exact (hf.pick e).elim
  | stuck =>
    rw [e] at h
    exact h.elim
theorem RepW.move {K : Frag} {A : AS} {H H' : Hp} (s : Same H H') {d : D} {v : V} (h : RepW K A H d v) : RepW K A H' d v := by
  cases d with
  | lst xs =>
    obtain ⟨a, vs, e, q, r⟩ := h
    refine ⟨a, vs, e, ?_, RepL.move (Mv.same s) _ _ r⟩
    rcases q with q | ⟨o, q⟩
    · exact .inl (s _ _ q)
    · exact .inr ⟨o, s _ _ q⟩
  | ins c fs =>
    obtain ⟨a, dx, fvs, e, q, r⟩ := h
    exact ⟨a, dx, fvs, e, s _ _ q, RepF.move (Mv.same s) _ _ r⟩
  | dic t kvs =>
    obtain ⟨a, e, q⟩ := h
    refine ⟨a, e, ?_⟩
    rcases q with ⟨ht, ks, q, r⟩ | ⟨ht, es, q, r⟩
    · exact .inl ⟨ht, ks, s _ _ q, RepK.move (Mv.same s) _ _ r⟩
    · exact .inr ⟨ht, es, s _ _ q, RepT.move (Mv.same s) _ _ r⟩
  | _ => exact Rep.move (Mv.same s) _ _ h
section
variable {X : Cx} {W : WX} {A : AS} {H0 : Base} {ow : Ow} {a b : Expr} {ma mb : EM} {pos : Pos}
theorem two_of {f : D → D → Res D} (hf : NoEx2 f) {σ : L2.St} {H : Hp} {Q : VK} (h : tE X.K W ow (bin f ma mb) σ H Q) : tOp (r2 X.K f) (tW X.K W ow ma) (tW X.K W ow mb) σ H Q := by
  obtain ⟨A, H0, O, en, R, q⟩ := h
  refine ⟨A, H0, O, en, R, (Out.bind q).good fun d1 q1 v1 H1 s1 r1 => ?_⟩
  refine ⟨A, H0, O, en, R.to s1, ((Out.bind q1).to s1).good fun d2 q2 v2 H2 s2 r2 => ?_⟩
  have R2 := (R.to s1).to s2
  exact r2_of (W := W) (O := O) (σ := σ) (H0 := H0) hf (r1.move s2) r2 R2.there (q2.good fun d k v H' s' r => k v H' ((s1.trans s2).trans s') r)
theorem one_of {f : D → Res D} (hf : NoEx1 f) {σ : L2.St} {H : Hp} {Q : VK} (h : tE X.K W ow (un f ma) σ H Q) : tUn (r1 X.K f) (tW X.K W ow ma) σ H Q := by
  obtain ⟨A, H0, O, en, R, q⟩ := h
  refine ⟨A, H0, O, en, R, (Out.bind q).good fun d1 q1 v1 H1 s1 r1 => ?_⟩
  have R2 := R.to s1
  cases e : f d1 with
  | ok d =>
    rw [e] at q1
    exact ⟨_, d1, d, r1, R2.there, e, fun v H' s' r => q1 v H' (s1.trans s') r⟩
  | exc c fs => exact (hf.exc e).elim
  | pick _ _ => exact (hf.pick e).elim
  | stuck =>
    rw [e] at q1
    exact q1.elim
theorem x_bin {op : Operator} {f : D → D → Res D} (ho : OpR X (binaryOp op) (r2 X.K f)) (hf : NoEx2 f) (ha : PE X a (tW X.K W ow ma)) (hb : PE X b (tW X.K W ow mb)) : PE X (.BinOp a op b pos) (tE X.K W ow (bin f ma mb)) :=
  PE.of (pe_op ho ha hb) fun _ _ _ h => two_of hf h
theorem x_cmp {op : CmpOp} {f : D → D → Res D} (ho : OpR X (compareOp op) (r2 X.K f)) (hf : NoEx2 f) (ha : PE X a (tW X.K W ow ma)) (hb : PE X b (tW X.K W ow mb)) (hm : behindInMarks op b = false) : PE X (.Compare a [op] [b] pos) (tE X.K W ow (bin f ma mb)) :=
  PE.of (pe_cmpR ho ha hb hm) fun _ _ _ h => two_of hf h
/-! ### ints -/
theorem rep_int {K : Frag} {A : AS} {H : Hp} {i : Int} {v : V} (h : RepW K A H (.int i) v) : v = .int i := h
theorem imp2 {g : Value → Value → Sem Value} {r r' : R2} (h : OpR X g r) (k : ∀ x y H Q, r' x y H Q → r x y H Q) : OpR X g r' := fun pins s σ H x y v u Q I rx ry q => h pins s σ H x y v u Q I rx ry (k x y H Q q)
theorem int_op {g : Value → Value → Sem Value} {f : D → D → Res D} {C : Int → Int → Prop} {z : Int → Int → V} {zd : Int → Int → D} (h : OpR X g (rI C z))
    (hz : ∀ i j, flat (zd i j) = some (z i j)) (hf : ∀ d1 d2 d, f d1 d2 = .ok d → ∃ i j, d1 = .int i ∧ d2 = .int j ∧ C i j ∧ d = zd i j) : OpR X g (r2 X.K f) := imp2 h fun x y H Q ⟨A, d1, d2, d, h1, h2, _, e, k⟩ => by
  obtain ⟨i, j, rfl, rfl, c, rfl⟩ := hf d1 d2 d e
  exact ⟨i, j, rep_int h1, rep_int h2, c, k _ H (Same.refl H) (flat_rep (hz i j) _ _)⟩
theorem rI_of {g : Value → Value → Sem Value} {z : Int → Int → V} (h : OpR X g (rI0 z)) : OpR X g (rI (fun _ _ => True) z) := imp2 h fun x y H Q ⟨i, j, e1, e2, _, q⟩ => ⟨i, j, e1, e2, q⟩
theorem y_sub : OpR X (binaryOp .Sub) (r2 X.K osub) := int_op (rI_of op_sub) (zd := fun i j => .int (i - j)) (fun _ _ => rfl) fun d1 d2 d e => by
  cases d1 <;> cases d2 <;> simp only [osub, Res.ok.injEq, reduceCtorEq] at e
  exact ⟨_, _, rfl, rfl, trivial, e.symm⟩
theorem y_mul : OpR X (binaryOp .Mult) (r2 X.K omul) := int_op op_mul (zd := fun i j => .int (i * j)) (fun _ _ => rfl) fun d1 d2 d e => by
  cases d1 <;> cases d2 <;> simp only [omul, reduceCtorEq] at e
  split at e
  · rename_i c
    refine ⟨_, _, rfl, rfl, ?_, ?_⟩
    · simp only [B64] at c
      unfold CMul
      have e64 : (2 : Int) ^ 64 = 18446744073709551616 := by decide
      rw [e64]
      omega
    · simp only [Res.ok.injEq] at e
      exact e.symm
  · cases e
theorem y_fdiv : OpR X (binaryOp .FloorDiv) (r2 X.K ofdiv) := int_op op_fdiv (zd := fun i j => .int (i / j)) (fun _ _ => rfl) fun d1 d2 d e => by
  cases d1 <;> cases d2 <;> simp only [ofdiv, reduceCtorEq] at e
  split at e
  · rename_i c
    simp only [Res.ok.injEq] at e
    exact ⟨_, _, rfl, rfl, c, e.symm⟩
  · cases e
theorem y_mod : OpR X (binaryOp .Mod) (r2 X.K omod) := int_op op_mod (zd := fun i j => .int (i % j)) (fun _ _ => rfl) fun d1 d2 d e => by
  cases d1 <;> cases d2 <;> simp only [omod, reduceCtorEq] at e
  split at e
  · rename_i c
    simp only [Res.ok.injEq] at e
    exact ⟨_, _, rfl, rfl, c, e.symm⟩
  · cases e
theorem y_pow : OpR X (binaryOp .Pow) (r2 X.K opow) := int_op op_pow (zd := fun i j => .int (i ^ j.toNat)) (fun _ _ => rfl) fun d1 d2 d e => by
  cases d1 <;> cases d2 <;> simp only [opow, reduceCtorEq] at e
  split at e
  · rename_i c
    simp only [Res.ok.injEq] at e
    refine ⟨_, _, rfl, rfl, ?_, e.symm⟩
    have e64 : (2 : Nat) ^ 64 = 18446744073709551616 := by decide
    unfold CPow
    rw [e64]
    exact c
  · cases e
theorem y_shl : OpR X (binaryOp .LShift) (r2 X.K oshl) := int_op op_shlW (zd := fun i j => .int (i * 2 ^ j.toNat)) (fun _ _ => rfl) fun d1 d2 d e => by
  cases d1 <;> cases d2 <;> simp only [oshl, reduceCtorEq] at e
  split at e
  · rename_i c
    simp only [Res.ok.injEq] at e
    refine ⟨_, _, rfl, rfl, ?_, e.symm⟩
    have e64 : (2 : Int) ^ 27 = 134217728 := by decide
    unfold CShl
    rw [e64]
    exact c
  · cases e
theorem y_lt : OpR X (compareOp .Lt) (r2 X.K olt) := int_op (rI_of op_lt) (zd := fun i j => .bl (decide (i < j))) (fun _ _ => rfl) fun d1 d2 d e => by
  cases d1 <;> cases d2 <;> simp only [olt, Res.ok.injEq, reduceCtorEq] at e
  exact ⟨_, _, rfl, rfl, trivial, e.symm⟩
theorem y_le : OpR X (compareOp .LtE) (r2 X.K ole) := int_op (rI_of op_le) (zd := fun i j => .bl (decide (i ≤ j))) (fun _ _ => rfl) fun d1 d2 d e => by
  cases d1 <;> cases d2 <;> simp only [ole, Res.ok.injEq, reduceCtorEq] at e
  exact ⟨_, _, rfl, rfl, trivial, e.symm⟩
theorem y_gt : OpR X (compareOp .Gt) (r2 X.K ogt) := int_op (rI_of op_gt) (zd := fun i j => .bl (decide (j < i))) (fun _ _ => rfl) fun d1 d2 d e => by
  cases d1 <;> cases d2 <;> simp only [ogt, Res.ok.injEq, reduceCtorEq] at e
  exact ⟨_, _, rfl, rfl, trivial, e.symm⟩
theorem y_ge : OpR X (compareOp .GtE) (r2 X.K oge) := int_op (rI_of op_ge) (zd := fun i j => .bl (decide (j ≤ i))) (fun _ _ => rfl) fun d1 d2 d e => by
  cases d1 <;> cases d2 <;> simp only [oge, Res.ok.injEq, reduceCtorEq] at e
  exact ⟨_, _, rfl, rfl, trivial, e.symm⟩
/-! ### == and in -/
theorem y_eq (hu : X.A.units + 64 < cLine) : OpR X (compareOp .Eq) (r2 X.K oeq) := imp2 (op_eqD hu) fun x y H Q ⟨A, d1, d2, d, h1, h2, _, e, k⟩ => by
  unfold oeq at e
  split at e
  · rename_i c
    rw [Bool.and_eq_true] at c
    simp only [Res.ok.injEq] at e
    subst e
    obtain ⟨a1, a2, a3⟩ := dp_of 64 d1 x c.1 h1.none
    obtain ⟨b1, b2, b3⟩ := dp_of 64 d2 y c.2 h2.none
    refine ⟨_, _, a1, b1, ?_, ?_, ?_⟩
    · unfold SeqAt.shaped
      rw [a2, decide_eq_true a3]
      rfl
    · unfold SeqAt.shaped
      rw [b2, decide_eq_true b3]
      rfl
    · rw [eqv_py d1 d2 64 64 c.1 c.2]
      exact k _ H (Same.refl H) (flat_rep rfl _ _)
  · cases e
theorem y_ne (hu : X.A.units + 64 < cLine) : OpR X (compareOp .NotEq) (r2 X.K one) := imp2 (op_neD hu) fun x y H Q ⟨A, d1, d2, d, h1, h2, _, e, k⟩ => by
  unfold one at e
  split at e
  · rename_i c
    rw [Bool.and_eq_true] at c
    simp only [Res.ok.injEq] at e
    subst e
    obtain ⟨a1, a2, a3⟩ := dp_of 64 d1 x c.1 h1.none
    obtain ⟨b1, b2, b3⟩ := dp_of 64 d2 y c.2 h2.none
    refine ⟨_, _, a1, b1, ?_, ?_, ?_⟩
    · unfold SeqAt.shaped
      rw [a2, decide_eq_true a3]
      rfl
    · unfold SeqAt.shaped
      rw [b2, decide_eq_true b3]
      rfl
    · rw [eqv_py d1 d2 64 64 c.1 c.2]
      exact k _ H (Same.refl H) (flat_rep rfl _ _)
  · cases e
theorem flat_v {K : Frag} {A : AS} {H : Hp} {d : D} {v : V} (f : flatD d = true) (h : Rep K A H d v) : flatV v = true ∧ ∀ {e : D} {w : V}, flatD e = true → Rep K A H e w → eqV v w = eqv d e := by
  cases d <;> simp only [flatD, reduceCtorEq] at f <;> simp only [Rep] at h <;> subst h <;> refine ⟨rfl, ?_⟩ <;> intro e w fe he <;> cases e <;> simp only [flatD, reduceCtorEq] at fe <;> simp only [Rep] at he <;> subst he <;> simp only [eqV, eqv, b2i]
  rename_i b c
  by_cases q : b = c
  · subst q
    simp
  · rw [beq_eq_false_iff_ne.mpr q]
    exact beq_eq_false_iff_ne.mpr fun z => q (ofS_inj z)
theorem flat_all {K : Frag} {A : AS} {H : Hp} {x : D} {w : V} (fx : flatD x = true) (hx : Rep K A H x w) : ∀ {ds : List D} {vs : List V}, ds.all flatD = true → RepL K A H ds vs → vs.all flatV = true ∧ inV w vs = mem x ds
  | [], vs, _, h => by
    simp only [RepL] at h
    subst h
    exact ⟨rfl, rfl⟩
  | d :: ds, vs, f, h => by
    simp only [RepL] at h
    obtain ⟨v, r, rfl, h1, h2⟩ := h
    simp only [List.all_cons, Bool.and_eq_true] at f
    obtain ⟨a1, a2⟩ := flat_v f.1 h1
    obtain ⟨b1, b2⟩ := flat_all fx hx f.2 h2
    refine ⟨by simp only [List.all_cons, a1, b1, Bool.and_self], ?_⟩
    unfold inV at b2 ⊢
    simp only [List.any_cons, mem, a2 fx hx, b2]
theorem flatW {K : Frag} {A : AS} {H : Hp} {d : D} {v : V} (f : flatD d = true) (h : RepW K A H d v) : Rep K A H d v := by
  cases d <;> simp only [flatD, reduceCtorEq] at f <;> exact h
theorem in_of {K : Frag} {neg : Bool} {f : D → D → Res D} (hf : ∀ x y d, f x y = .ok d → ∃ ys, (y = .lst ys ∨ y = .tup ys) ∧ flatD x = true ∧ ys.all flatD = true ∧ d = .bl (if neg then !mem x ys else mem x ys)) :
    ∀ x y H Q, r2 K f x y H Q → rIn K neg x y H Q := fun x y H Q ⟨A, d1, d2, d, h1, h2, _, e, k⟩ => by
  obtain ⟨ys, hy, fx, fy, rfl⟩ := hf d1 d2 d e
  have g1 := flatW fx h1
  obtain ⟨a, vs, rfl, hq, r⟩ : ∃ a vs, y = .ref a ∧ (SqL K H a vs ∨ SqT K H a vs) ∧ RepL K A H ys vs := by
    rcases hy with rfl | rfl
    · obtain ⟨a, vs, e, q, r⟩ := h2
      exact ⟨a, vs, e, .inl (.inl q), r⟩
    · obtain ⟨a, vs, e, q, r⟩ := (by simpa only [RepW, Rep] using h2 : ∃ a vs, y = .ref a ∧ SqT K H a vs ∧ RepL K A H ys vs)
      exact ⟨a, vs, e, .inr q, r⟩
  obtain ⟨b1, b2⟩ := flat_all fx g1 fy r
  refine ⟨a, vs, rfl, hq, (flat_v fx g1).1, b1, ?_⟩
  rw [b2]
  exact k _ H (Same.refl H) (flat_rep rfl _ _)
def isDic : D → Bool
  | .dic _ _ => true
  | _ => false
theorem y_in (hu : X.A.units + 16 < cLine) : OpR X (compareOp .In) (r2 X.K oin) := by
  have base : OpR X (compareOp .In) (fun x y H Q => ∃ A d1 d2 d, isDic d2 = false ∧ RepW X.K A H d1 x ∧ RepW X.K A H d2 y ∧ (∀ a, A a → H a ≠ none) ∧ oin d1 d2 = .ok d ∧ ∀ v H', Same H H' → Rep X.K A H' d v → Q v H') :=
    imp2 op_in_seq fun x y H Q ⟨A, d1, d2, d, hd, h1, h2, h3, e, k⟩ => by
      have q : r2 X.K (fun a b => if isDic b then Res.stuck else oin a b) x y H Q := ⟨A, d1, d2, d, h1, h2, h3, by show (if isDic d2 = true then Res.stuck else oin d1 d2) = _; rw [hd]; exact e, k⟩
      refine in_of (f := fun a b => if isDic b then Res.stuck else oin a b) (neg := false) (fun x y d e => ?_) x y H Q q
      cases y with
      | tup xs =>
        have e : oin x (.tup xs) = .ok d := e
        simp only [oin] at e
        split at e
        · rename_i c
          rw [Bool.and_eq_true] at c
          simp only [Res.ok.injEq] at e
          exact ⟨xs, .inr rfl, c.1, c.2, e.symm⟩
        · cases e
      | lst xs =>
        have e : oin x (.lst xs) = .ok d := e
        simp only [oin] at e
        split at e
        · rename_i c
          rw [Bool.and_eq_true] at c
          simp only [Res.ok.injEq] at e
          exact ⟨xs, .inl rfl, c.1, c.2, e.symm⟩
        · cases e
      | _ => simp [oin, isDic] at e
  intro pins s σ H x y v u Q I rx ry ⟨A, d1, d2, d, h1, h2, h3, e, k⟩
  cases hd : isDic d2 with
  | false => exact base pins s σ H x y v u Q I rx ry ⟨A, d1, d2, d, hd, h1, h2, h3, e, k⟩
  | true =>
    cases d2 <;> simp only [isDic, reduceCtorEq] at hd
    rename_i t kvs
    simp only [oin] at e
    split at e
    · rename_i hk
      simp only [Res.ok.injEq] at e
      subst e
      obtain ⟨a, rfl, g⟩ := h2
      cases (show u = Value.ref a from ry)
      have h1' : Rep X.K A H d1 x := by
        cases d1 <;> first | exact h1 | (cases t <;> simp [keyOk] at hk)
      exact dic_in hu I g hk h1' rx fun s' I' => ⟨.bl (find d1 kvs).isSome, H, I', rfl, k _ H (Same.refl H) rfl⟩
    · cases e
theorem y_notin (hu : X.A.units + 16 < cLine) : OpR X (compareOp .NotIn) (r2 X.K onotin) := by
  have base : OpR X (compareOp .NotIn) (fun x y H Q => ∃ A d1 d2 d, isDic d2 = false ∧ RepW X.K A H d1 x ∧ RepW X.K A H d2 y ∧ (∀ a, A a → H a ≠ none) ∧ onotin d1 d2 = .ok d ∧ ∀ v H', Same H H' → Rep X.K A H' d v → Q v H') :=
    imp2 op_notIn_seq fun x y H Q ⟨A, d1, d2, d, hd, h1, h2, h3, e, k⟩ => by
      have q : r2 X.K (fun a b => if isDic b then Res.stuck else onotin a b) x y H Q := ⟨A, d1, d2, d, h1, h2, h3, by show (if isDic d2 = true then Res.stuck else onotin d1 d2) = _; rw [hd]; exact e, k⟩
      refine in_of (f := fun a b => if isDic b then Res.stuck else onotin a b) (neg := true) (fun x y d e => ?_) x y H Q q
      cases y with
      | tup xs =>
        have e : onotin x (.tup xs) = .ok d := e
        simp only [onotin] at e
        split at e
        · rename_i c
          rw [Bool.and_eq_true] at c
          simp only [Res.ok.injEq] at e
          exact ⟨xs, .inr rfl, c.1, c.2, e.symm⟩
        · cases e
      | lst xs =>
        have e : onotin x (.lst xs) = .ok d := e
        simp only [onotin] at e
        split at e
        · rename_i c
          rw [Bool.and_eq_true] at c
          simp only [Res.ok.injEq] at e
          exact ⟨xs, .inl rfl, c.1, c.2, e.symm⟩
        · cases e
      | _ => simp [onotin, isDic] at e
  intro pins s σ H x y v u Q I rx ry ⟨A, d1, d2, d, h1, h2, h3, e, k⟩
  cases hd : isDic d2 with
  | false => exact base pins s σ H x y v u Q I rx ry ⟨A, d1, d2, d, hd, h1, h2, h3, e, k⟩
  | true =>
    cases d2 <;> simp only [isDic, reduceCtorEq] at hd
    rename_i t kvs
    simp only [onotin] at e
    split at e
    · rename_i hk
      simp only [Res.ok.injEq] at e
      subst e
      obtain ⟨a, rfl, g⟩ := h2
      cases (show u = Value.ref a from ry)
      have h1' : Rep X.K A H d1 x := by
        cases d1 <;> first | exact h1 | (cases t <;> simp [keyOk] at hk)
      exact dic_notIn hu I g hk h1' rx fun s' I' => ⟨.bl (!(find d1 kvs).isSome), H, I', rfl, k _ H (Same.refl H) rfl⟩
    · cases e
/-! ### + -/
theorem RepL.empty {K : Frag} {A : AS} {H : Hp} {ds : List D} {vs : List V} (h : RepL K A H ds vs) : ds = [] ↔ vs = [] := by
  have := h.length
  constructor
  · intro e
    subst e
    exact List.eq_nil_of_length_eq_zero this.symm
  · intro e
    subst e
    exact List.eq_nil_of_length_eq_zero this
/-- a new object is clean -/
theorem new_same {H : Hp} {p : Addr} {o : HO} (h : H p = none) : Same H (upd H p o) := fun b u e => by
  rw [upd_ne (ne_of_none e h)]
  exact e
theorem new_tup {K : Frag} {A : AS} {H : Hp} {ds : List D} {vs : List V} (r : RepL K A H ds vs) {p : Addr} (h : H p = none) : Rep K A (upd H p (.tup vs)) (.tup ds) (.ref p) := by
  simp only [Rep]
  exact ⟨p, vs, rfl, .inl (.inl upd_same), RepL.move (Mv.same (new_same h)) _ _ r⟩
theorem new_lst {K : Frag} {A : AS} {H : Hp} (ha : ∀ a, A a → H a ≠ none) {ds : List D} {vs : List V} (r : RepL K A H ds vs) {p : Addr} (h : H p = none) : Rep K A (upd H p (.lst vs)) (.lst ds) (.ref p) := by
  simp only [Rep]
  exact ⟨p, vs, rfl, fun z => ha p z h, .inl upd_same, RepL.move (Mv.same (new_same h)) _ _ r⟩
theorem str_app (a b : String) : Str.ofString a ++ Str.ofString b = Str.ofString (a ++ b) := by
  simp only [Str.ofString_eq_toList]
  show Str.append _ _ = _
  simp [Str.append]
theorem lst_at {pins : List (Addr × Obj)} {σ : L2.St} {H : Hp} {s : Shared} (I : Inv X pins σ H s) {a : Addr} {vs : List V} (h : Rd H a (.lst vs)) :
    vs.length ≤ sizeLine ∧ ∃ (its : List Value) (n : Nat), Vals vs its ∧ s.heap.get? a = some { cls := .type "list", data := .seq its.toArray n } := h.ok I.hok
theorem y_add : OpR X (binaryOp .Add) (r2 X.K oadd) := by
  intro pins s σ H x y v u Q I rx ry ⟨A, d1, d2, d, h1, h2, ha, e, k⟩
  cases d1 with
  | int i =>
    cases d2 <;> simp only [oadd, Res.ok.injEq, reduceCtorEq] at e
    subst e
    exact op_add pins s σ H x y v u Q I rx ry ⟨_, _, rep_int h1, rep_int h2, k _ H (Same.refl H) (flat_rep rfl _ _)⟩
  | str i =>
    cases d2 <;> simp only [oadd, Res.ok.injEq, reduceCtorEq] at e
    split at e
    · rename_i j c
      simp only [Res.ok.injEq] at e
      subst e
      refine op_add_str pins s σ H x y v u Q I rx ry ⟨_, _, h1, h2, by rw [str_len, str_len]; exact c, ?_⟩
      rw [str_app]
      exact k _ H (Same.refl H) (flat_rep rfl _ _)
    · cases e
  | tup xs =>
    cases d2 <;> simp only [oadd, Res.ok.injEq, reduceCtorEq] at e
    rename_i ys
    split at e
    · rename_i c
      simp only [Res.ok.injEq] at e
      subst e
      obtain ⟨a, vs, rfl, q1, p1⟩ := (by simpa only [RepW, Rep] using h1 : ∃ a vs, x = .ref a ∧ SqT X.K H a vs ∧ RepL X.K A H xs vs)
      obtain ⟨b, ws, rfl, q2, p2⟩ := (by simpa only [RepW, Rep] using h2 : ∃ a vs, y = .ref a ∧ SqT X.K H a vs ∧ RepL X.K A H ys vs)
      refine op_catA pins s σ H _ _ v u Q I rx ry ⟨a, b, vs, ws, rfl, rfl, q1, q2, by rw [← p1.length, ← p2.length]; exact c, fun z => ?_, fun _ z => ?_, fun _ _ p hp => ?_⟩
      · have z1 := p1.empty.mpr z
        subst z1
        exact k _ H (Same.refl H) h2
      · have z1 := p2.empty.mpr z
        subst z1
        rw [List.append_nil] at k
        exact k _ H (Same.refl H) h1
      · exact k _ _ (new_same hp) (new_tup (p1.append p2) hp)
    · cases e
  | lst xs =>
    cases d2 <;> simp only [oadd, Res.ok.injEq, reduceCtorEq] at e
    rename_i ys
    split at e
    · rename_i c
      simp only [Res.ok.injEq] at e
      subst e
      obtain ⟨a, vs, rfl, q1, p1⟩ := h1
      obtain ⟨b, ws, rfl, q2, p2⟩ := h2
      cases rx
      cases ry
      obtain ⟨z1, its, n, rr1, e1⟩ := lst_at I q1
      obtain ⟨z2, its2, n2, rr2, e2⟩ := lst_at I q2
      have hl1 := rr1.length
      have hl2 := rr2.length
      have hl3 := p1.length
      have hl4 := p2.length
      have hsz : SZ = sizeLine := rfl
      refine PySem.P.add_list e1 e2 ?_ (by rw [List.size_toArray, List.size_toArray]; omega)
      have ea : its.toArray ++ its2.toArray = (its ++ its2).toArray := by simp
      rw [ea]
      exact ⟨.ref _, _, I.lnew (t' := s.toks) (rr1.append rr2) (by rw [List.length_append]; omega), rfl, k _ _ (new_same I.fresh) (new_lst ha (p1.append p2) I.fresh)⟩
    · cases e
  | _ => simp [oadd] at e
end
theorem n_add : NoEx2 oadd := fun x y c fs => by
  cases x <;> cases y <;> simp only [oadd] <;> first | (split <;> rfl) | rfl
theorem n_sub : NoEx2 osub := fun x y c fs => by cases x <;> cases y <;> rfl
theorem n_mul : NoEx2 omul := fun x y c fs => by
  cases x <;> cases y <;> simp only [omul] <;> first | (split <;> rfl) | rfl
theorem n_fdiv : NoEx2 ofdiv := fun x y c fs => by
  cases x <;> cases y <;> simp only [ofdiv] <;> first | (split <;> rfl) | rfl
theorem n_mod : NoEx2 omod := fun x y c fs => by
  cases x <;> cases y <;> simp only [omod] <;> first | (split <;> rfl) | rfl
theorem n_pow : NoEx2 opow := fun x y c fs => by
  cases x <;> cases y <;> simp only [opow] <;> first | (split <;> rfl) | rfl
theorem n_shl : NoEx2 oshl := fun x y c fs => by
  cases x <;> cases y <;> simp only [oshl] <;> first | (split <;> rfl) | rfl
theorem n_lt : NoEx2 olt := fun x y c fs => by cases x <;> cases y <;> rfl
theorem n_le : NoEx2 ole := fun x y c fs => by cases x <;> cases y <;> rfl
theorem n_gt : NoEx2 ogt := fun x y c fs => by cases x <;> cases y <;> rfl
theorem n_ge : NoEx2 oge := fun x y c fs => by cases x <;> cases y <;> rfl
theorem n_eq : NoEx2 oeq := fun x y c fs => by
  unfold oeq
  split <;> rfl
theorem n_ne : NoEx2 one := fun x y c fs => by
  unfold one
  split <;> rfl
theorem n_in : NoEx2 oin := fun x y c fs => by
  cases y <;> simp only [oin] <;> first | (split <;> rfl) | rfl
theorem n_notin : NoEx2 onotin := fun x y c fs => by
  cases y <;> simp only [onotin] <;> first | (split <;> rfl) | rfl
end Py
/-! Tests, displays, subscripts, attributes, calls of built-ins. -/
namespace Py
open PySem L2
section
variable {X : Cx} {W : WX} {A : AS} {H0 : Base} {ow : Ow} {a b c : Expr} {ma mb mc : EM} {pos : Pos}
/-! ### truths -/
theorem bl_of {K : Frag} {A : AS} {H : Hp} {k : Bool} {v : V} (h : Rep K A H (.bl k) v) : v = .bl k := h
theorem rep_bl {K : Frag} {A : AS} {H : Hp} {k : Bool} : Rep K A H (.bl k) (.bl k) := rfl
theorem x_and {rest : List Expr} (ha : PE X a (tE X.K W ow ma)) (hb : PE X (.BoolOp .And (b :: rest) pos) (tE X.K W ow mb)) : PE X (.BoolOp .And (a :: b :: rest) pos) (tE X.K W ow (andE ma mb)) :=
  PE.of (pe_and ha hb) fun σ H Q ⟨A, H0, O, en, R, q⟩ => ⟨A, H0, O, en, R, (Out.bind q).good fun d q1 v H1 s1 r1 => by
    cases d with
    | bl k =>
      cases k with
      | true =>
        refine ⟨true, bl_of r1, ?_⟩
        rw [if_pos rfl]
        exact ⟨A, H0, O, en, R.to s1, (q1.to s1).good fun d2 q2 v2 H2 s2 r2 => q2 v2 H2 (s1.trans s2) r2⟩
      | false =>
        refine ⟨false, bl_of r1, ?_⟩
        rw [if_neg (by decide)]
        exact q1 _ _ s1 rep_bl
    | _ => exact q1.elim⟩
theorem x_one {op} (h : PE X a (tE X.K W ow ma)) : PE X (.BoolOp op [a] pos) (tE X.K W ow ma) := pe_one h
/-- not x, of a truth -/
theorem x_not (ha : PE X a (tE X.K W ow ma)) : PE X (.UnaryOp .Not a pos) (tE X.K W ow (un onb ma)) :=
  PE.of (pe_not ha) fun σ H Q ⟨A, H0, O, en, R, q⟩ => ⟨A, H0, O, en, R, (Out.bind q).good fun d q1 v H1 s1 r1 => by
    cases d with
    | bl k => exact ⟨k, bl_of r1, q1 _ _ s1 rep_bl⟩
    | _ => exact q1.elim⟩
theorem x_ifExp {t : TM} (hc : PT X c (tT X.K W ow t)) (ha : PE X a (tE X.K W ow ma)) (hb : PE X b (tE X.K W ow mb)) : PE X (.IfExp c a b pos) (tE X.K W ow (ifE t ma mb)) :=
  PE.of (pe_ifExp hc ha hb) fun σ H Q ⟨A, H0, O, en, R, q⟩ => ⟨A, H0, O, en, R, (Out.bind q).good fun k q1 H1 s1 => by
    cases k with
    | true =>
      rw [if_pos rfl] at q1 ⊢
      exact ⟨A, H0, O, en, R.to s1, (q1.to s1).good fun d2 q2 v2 H2 s2 r2 => q2 v2 H2 (s1.trans s2) r2⟩
    | false =>
      rw [if_neg (by decide)] at q1 ⊢
      exact ⟨A, H0, O, en, R.to s1, (q1.to s1).good fun d2 q2 v2 H2 s2 r2 => q2 v2 H2 (s1.trans s2) r2⟩⟩
theorem chain_of {f g : D → D → Res D} (hf : NoEx2 f) (hg : NoEx2 g) {σ : L2.St} {H : Hp} {Q : VK} (h : tE X.K W ow (chain f g ma mb mc) σ H Q) : tChain (r2 X.K f) (r2 X.K g) (tW X.K W ow ma) (tW X.K W ow mb) (tW X.K W ow mc) σ H Q := by
  obtain ⟨A, H0, O, en, R, q⟩ := h
  refine ⟨A, H0, O, en, R, (Out.bind q).good fun d1 q1 v1 H1 s1 r1 => ⟨A, H0, O, en, R.to s1, ((Out.bind q1).to s1).good fun d2 q2 v2 H2 s2 r2 => ?_⟩⟩
  have R2 := (R.to s1).to s2
  have q3 := Out.bind q2
  cases e : f d1 d2 with
  | exc cc fs => exact (hf.exc e).elim
  | pick _ _ => exact (hf.pick e).elim
  | stuck =>
    rw [e] at q3
    exact q3.elim
  | ok d =>
    rw [e] at q3
    refine ⟨_, d1, d2, d, r1.move s2, r2, R2.there, e, fun v3 H3 s3 r3 => ?_⟩
    have q4 : Out _ _ _ := q3
    cases d with
    | bl k =>
      cases k with
      | false =>
        refine ⟨false, bl_of r3, ?_⟩
        rw [if_neg (by decide)]
        exact q4 _ _ ((s1.trans s2).trans s3) rep_bl
      | true =>
        refine ⟨true, bl_of r3, ?_⟩
        rw [if_pos rfl]
        refine ⟨A, H0, O, en, R2.to s3, ((Out.bind q4).to ((s1.trans s2).trans s3)).good fun d4 q5 v4 H4 s4 r4 => ?_⟩
        exact r2_of (W := W) (O := O) (σ := σ) (H0 := H0) hg (r2.move (s3.trans s4)) r4 ((R2.to s3).to s4).there (q5.good fun d k v H' s' r => k v H' ((((s1.trans s2).trans s3).trans s4).trans s') r)
    | _ => exact q4.elim
theorem x_chain {op op' : CmpOp} {f g : D → D → Res D} (ho : OpR X (compareOp op) (r2 X.K f)) (ho' : OpR X (compareOp op') (r2 X.K g)) (hf : NoEx2 f) (hg : NoEx2 g)
    (ha : PE X a (tW X.K W ow ma)) (hb : PE X b (tW X.K W ow mb)) (hc : PE X c (tW X.K W ow mc))
    (hm : lastMarks [op, op'] [b, c] = false := by with_unfolding_all rfl) : PE X (.Compare a [op, op'] [b, c] pos) (tE X.K W ow (chain f g ma mb mc)) :=
  PE.of (pe_chain ho ho' ha hb hc hm) fun _ _ _ h => chain_of hf hg h
/-! ### tests -/
theorem trim {K : Frag} {A : AS} {H : Hp} {d : D} {v : V} {k : Bool} (h : RepW K A H d v) (e : truthy d = .ok k) : TruV K v H k := by
  cases d with
  | non =>
    simp only [truthy, Res.ok.injEq] at e
    have h' : v = .non := h
    subst h' e
    rfl
  | bl b =>
    simp only [truthy, Res.ok.injEq] at e
    have h' : v = .bl b := h
    subst h' e
    rfl
  | int i =>
    simp only [truthy, Res.ok.injEq] at e
    have h' : v = .int i := h
    subst h' e
    rfl
  | str s =>
    simp only [truthy] at e
    split at e
    · rename_i cc
      simp only [Res.ok.injEq] at e
      have h' : v = .str (Str.ofString s) := h
      subst h' e
      refine ⟨by rw [str_len]; exact cc, ?_⟩
      rw [str_len]
      cases hh : s.length with
      | zero => rfl
      | succ n =>
        have e1 : (((n + 1 : Nat) : Int) == 0) = false := beq_eq_false_iff_ne.mpr (by omega)
        have e2 : ((n + 1 : Nat) == 0) = false := rfl
        unfold bne
        rw [e1, e2]
    · cases e
  | tup xs =>
    simp only [truthy, Res.ok.injEq] at e
    obtain ⟨a, vs, rfl, q, r⟩ := (by simpa only [RepW, Rep] using h : ∃ a vs, v = .ref a ∧ SqT K H a vs ∧ RepL K A H xs vs)
    refine .inr (.inl ⟨vs, q, ?_⟩)
    subst e
    have hl := r.length
    cases xs <;> cases vs <;> first | rfl | simp at hl
  | lst xs =>
    simp only [truthy, Res.ok.injEq] at e
    obtain ⟨a, vs, rfl, q, r⟩ := h
    refine .inl ⟨vs, .inl q, ?_⟩
    subst e
    have hl := r.length
    cases xs <;> cases vs <;> first | rfl | simp at hl
  | dic _ => simp [truthy] at e
  | ins _ _ => simp [truthy] at e
  | drw _ => simp [truthy] at e
theorem no_truthy : ∀ d, (truthy d).isP = true := fun d => by
  cases d <;> simp only [truthy] <;> first | (split <;> rfl) | rfl
/-- any expression as a test -/
theorem t_tst (ha : PE X a (tW X.K W ow ma)) (he : ∀ whole, isTrue a X.env whole = (do let v ← whole; standAt a.pos; holding [v] (PySem.truthy v))) : PT X a (tT X.K W ow (tst ma)) :=
  PT.of (pt_truth ha he) fun σ H Q ⟨A, H0, O, en, R, q⟩ => ⟨A, H0, O, en, R, (Out.bind q).good fun d q1 v H1 s1 r1 => by
    cases e : Py.truthy d with
    | ok k =>
      rw [e] at q1
      exact ⟨k, trim r1 e, q1 H1 s1⟩
    | exc c fs =>
      have := no_truthy d
      rw [e] at this
      cases this
    | pick _ _ =>
      have := no_truthy d
      rw [e] at this
      cases this
    | stuck =>
      rw [e] at q1
      exact q1.elim⟩
/-- what gives a truth, as a test -/
def Bl (m : EM) : Prop := ∀ e d, Res.leaf d (m e) → ∃ k, d = .bl k
theorem Bl.bin {f : D → D → Res D} (hf : NoEx2 f) (h : ∀ x y d, f x y = .ok d → ∃ k, d = .bl k) {ma mb : EM} : Bl (bin f ma mb) := fun e d q => by
  obtain ⟨d1, _, q⟩ := leaf_bind q
  obtain ⟨d2, _, q⟩ := leaf_bind q
  exact h _ _ _ (leaf_isP (hf _ _ () ()) q)
theorem tst_of {m : EM} (hm : Bl m) {σ : L2.St} {H : Hp} {Q : Bool → Hp → Prop} (h : tT X.K W ow (tst m) σ H Q) : tE X.K W ow m σ H fun x H' => ∃ k, x = .bl k ∧ Q k H' := by
  obtain ⟨A, H0, O, en, R, q⟩ := h
  refine ⟨A, H0, O, en, R, (Out.bind q).imp (fun d e q1 v H1 s1 r1 => ?_) fun _ _ x => x⟩
  obtain ⟨k, rfl⟩ := hm _ _ e
  exact ⟨k, bl_of r1, q1 H1 s1⟩
/-- a comparison as a test -/
theorem t_cmp {op : CmpOp} {f : D → D → Res D} (ho : OpR X (compareOp op) (r2 X.K f)) (hf : NoEx2 f) (hb2 : ∀ x y d, f x y = .ok d → ∃ k, d = .bl k) (ha : PE X a (tW X.K W ow ma)) (hb : PE X b (tW X.K W ow mb)) (hm : behindInMarks op b = false) :
    PT X (.Compare a [op] [b] pos) (tT X.K W ow (tst (bin f ma mb))) :=
  PT.of (pt_cmpR ho ha hb hm) fun _ _ _ h => two_of hf (tst_of (Bl.bin hf hb2) h)
theorem t_chain {op op' : CmpOp} {f g : D → D → Res D} (ho : OpR X (compareOp op) (r2 X.K f)) (ho' : OpR X (compareOp op') (r2 X.K g)) (hf : NoEx2 f) (hg : NoEx2 g) (hm2 : Bl (chain f g ma mb mc))
    (ha : PE X a (tW X.K W ow ma)) (hb : PE X b (tW X.K W ow mb)) (hc : PE X c (tW X.K W ow mc))
    (hm : lastMarks [op, op'] [b, c] = false := by with_unfolding_all rfl) : PT X (.Compare a [op, op'] [b, c] pos) (tT X.K W ow (tst (chain f g ma mb mc))) :=
  PT.of (pt_chain ho ho' ha hb hc hm) fun _ _ _ h => chain_of hf hg (tst_of hm2 h)
theorem Bl.chain {f g : D → D → Res D} (hf : NoEx2 f) (hg : NoEx2 g) (h : ∀ x y d, g x y = .ok d → ∃ k, d = .bl k) {ma mb mc : EM} : Bl (chain f g ma mb mc) := fun e d q => by
  obtain ⟨d1, _, q⟩ := leaf_bind q
  obtain ⟨d2, _, q⟩ := leaf_bind q
  obtain ⟨z, _, q⟩ := leaf_bind q
  cases z with
  | bl k =>
    cases k with
    | false => exact ⟨false, q.symm⟩
    | true =>
      obtain ⟨d4, _, q⟩ := leaf_bind q
      exact h _ _ _ (leaf_isP (hg _ _ () ()) q)
  | _ => exact q.elim
theorem b_lt : ∀ x y d, olt x y = .ok d → ∃ k, d = .bl k := fun x y d h => by
  cases x <;> cases y <;> simp only [olt, Res.ok.injEq, reduceCtorEq] at h
  exact ⟨_, h.symm⟩
theorem b_le : ∀ x y d, ole x y = .ok d → ∃ k, d = .bl k := fun x y d h => by
  cases x <;> cases y <;> simp only [ole, Res.ok.injEq, reduceCtorEq] at h
  exact ⟨_, h.symm⟩
theorem b_gt : ∀ x y d, ogt x y = .ok d → ∃ k, d = .bl k := fun x y d h => by
  cases x <;> cases y <;> simp only [ogt, Res.ok.injEq, reduceCtorEq] at h
  exact ⟨_, h.symm⟩
theorem b_ge : ∀ x y d, oge x y = .ok d → ∃ k, d = .bl k := fun x y d h => by
  cases x <;> cases y <;> simp only [oge, Res.ok.injEq, reduceCtorEq] at h
  exact ⟨_, h.symm⟩
theorem b_eq : ∀ x y d, oeq x y = .ok d → ∃ k, d = .bl k := fun x y d h => by
  unfold oeq at h
  split at h <;> simp only [Res.ok.injEq, reduceCtorEq] at h
  exact ⟨_, h.symm⟩
theorem b_ne : ∀ x y d, Py.one x y = .ok d → ∃ k, d = .bl k := fun x y d h => by
  unfold Py.one at h
  split at h <;> simp only [Res.ok.injEq, reduceCtorEq] at h
  exact ⟨_, h.symm⟩
theorem b_in : ∀ x y d, oin x y = .ok d → ∃ k, d = .bl k := fun x y d h => by
  cases y <;> simp only [oin, reduceCtorEq] at h <;> split at h <;> simp only [Res.ok.injEq, reduceCtorEq] at h <;> exact ⟨_, h.symm⟩
theorem b_notin : ∀ x y d, onotin x y = .ok d → ∃ k, d = .bl k := fun x y d h => by
  cases y <;> simp only [onotin, reduceCtorEq] at h <;> split at h <;> simp only [Res.ok.injEq, reduceCtorEq] at h <;> exact ⟨_, h.symm⟩
theorem t_and1 {t : TM} (ha : PT X a (tT X.K W ow t)) : PW X (.BoolOp .And [a] pos) (tT X.K W ow t) := pw_and1 ha
theorem t_or1 {t : TM} (ha : PT X a (tT X.K W ow t)) : PW X (.BoolOp .Or [a] pos) (tT X.K W ow t) := pw_or1 ha
theorem t_and {t u : TM} {rest : List Expr} (ha : PT X a (tT X.K W ow t)) (hb : PW X (.BoolOp .And (b :: rest) pos) (tT X.K W ow u)) : PW X (.BoolOp .And (a :: b :: rest) pos) (tT X.K W ow (andT t u)) :=
  PW.of (pw_and ha hb) fun σ H Q ⟨A, H0, O, en, R, q⟩ => ⟨A, H0, O, en, R, (Out.bind q).good fun k q1 H1 s1 => by
    cases k with
    | true =>
      rw [if_pos rfl] at q1 ⊢
      exact ⟨A, H0, O, en, R.to s1, (q1.to s1).good fun d2 q2 H2 s2 => q2 H2 (s1.trans s2)⟩
    | false =>
      rw [if_neg (by decide)] at q1 ⊢
      exact q1 H1 s1⟩
theorem t_or {t u : TM} {rest : List Expr} (ha : PT X a (tT X.K W ow t)) (hb : PW X (.BoolOp .Or (b :: rest) pos) (tT X.K W ow u)) : PW X (.BoolOp .Or (a :: b :: rest) pos) (tT X.K W ow (orT t u)) :=
  PW.of (pw_or ha hb) fun σ H Q ⟨A, H0, O, en, R, q⟩ => ⟨A, H0, O, en, R, (Out.bind q).good fun k q1 H1 s1 => by
    cases k with
    | false =>
      rw [if_neg (by decide)] at q1 ⊢
      exact ⟨A, H0, O, en, R.to s1, (q1.to s1).good fun d2 q2 H2 s2 => q2 H2 (s1.trans s2)⟩
    | true =>
      rw [if_pos rfl] at q1 ⊢
      exact q1 H1 s1⟩
theorem t_not {t : TM} (ha : PT X a (tT X.K W ow t)) : PT X (.UnaryOp .Not a pos) (tT X.K W ow (notT t)) :=
  PT.of (pt_not ha) fun σ H Q ⟨A, H0, O, en, R, q⟩ => ⟨A, H0, O, en, R, (Out.bind q).good fun k q1 H1 s1 => q1 H1 s1⟩
/-! ### is None, is True -/
theorem isN_v {K : Frag} {A : AS} {H : Hp} {d : D} {v : V} (h : RepW K A H d v) : decide (v = .non) = isNon d := by
  cases d with
  | non =>
    have h' : v = .non := h
    subst h'
    rfl
  | bl b =>
    have h' : v = .bl b := h
    subst h'
    rfl
  | int b =>
    have h' : v = .int b := h
    subst h'
    rfl
  | str b =>
    have h' : v = .str (Str.ofString b) := h
    subst h'
    rfl
  | tup xs =>
    obtain ⟨a, vs, rfl, q, r⟩ := (by simpa only [RepW, Rep] using h : ∃ a vs, v = .ref a ∧ SqT K H a vs ∧ RepL K A H xs vs)
    rfl
  | lst xs =>
    obtain ⟨a, vs, rfl, q, r⟩ := h
    rfl
  | dic _ _ =>
    obtain ⟨a, rfl, _⟩ := h
    rfl
  | ins _ _ =>
    obtain ⟨a, dx, fvs, rfl, _⟩ := h
    rfl
  | drw q =>
    cases q with
    | inl k =>
      obtain ⟨a, a0, xs, rfl, _⟩ := (by simpa only [RepW, Rep] using h : ∃ a a0 xs, v = .ref a ∧ ¬ A a ∧ H a = some (poolO k a a0) ∧ ¬ A a0 ∧ Rd H a0 (.lst ((xs : List Int).map V.int)))
      rfl
    | inr q =>
      obtain ⟨rfl, _⟩ := (by simpa only [RepW, Rep] using h : v = .ref q.1 ∧ ¬ A q.1 ∧ Rd H q.1 (.lst (q.2.map V.int)))
      rfl
theorem x_notN {j pos'} (ha : PE X a (tW X.K W ow ma)) : PE X (.Compare a [.IsNot] [.Constant .none j pos'] pos) (tE X.K W ow (un onotN ma)) :=
  PE.of (pe_cmp (pc_notN ha)) fun σ H Q ⟨A, H0, O, en, R, q⟩ => ⟨A, H0, O, en, R, (Out.bind q).good fun d q1 v H1 s1 r1 => by
    dsimp only
    rw [isN_v r1]
    exact q1 _ _ s1 rep_bl⟩
theorem Bl.un {f : D → Res D} (hf : NoEx1 f) (h : ∀ x d, f x = .ok d → ∃ k, d = .bl k) {ma : EM} : Bl (un f ma) := fun e d q => by
  obtain ⟨d1, _, q⟩ := leaf_bind q
  exact h _ _ (leaf_isP (hf _ () ()) q)
theorem b_isN : ∀ x d, oisN x = .ok d → ∃ k, d = .bl k := fun x d h => ⟨_, (Res.ok.inj h).symm⟩
theorem b_notN : ∀ x d, onotN x = .ok d → ∃ k, d = .bl k := fun x d h => ⟨_, (Res.ok.inj h).symm⟩
theorem t_isN {j pos'} (ha : PE X a (tW X.K W ow ma)) : PT X (.Compare a [.Is] [.Constant .none j pos'] pos) (tT X.K W ow (tst (un oisN ma))) :=
  PT.of (pt_cmp (pc_isN ha)) fun σ H Q h => by
    obtain ⟨A, H0, O, en, R, q⟩ := tst_of (Bl.un (fun _ _ _ => rfl) b_isN) h
    refine ⟨A, H0, O, en, R, (Out.bind q).good fun d q1 v H1 s1 r1 => ?_⟩
    dsimp only
    rw [isN_v r1]
    exact q1 _ _ s1 rep_bl
theorem t_notN {j pos'} (ha : PE X a (tW X.K W ow ma)) : PT X (.Compare a [.IsNot] [.Constant .none j pos'] pos) (tT X.K W ow (tst (un onotN ma))) :=
  PT.of (pt_cmp (pc_notN ha)) fun σ H Q h => by
    obtain ⟨A, H0, O, en, R, q⟩ := tst_of (Bl.un (fun _ _ _ => rfl) b_notN) h
    refine ⟨A, H0, O, en, R, (Out.bind q).good fun d q1 v H1 s1 r1 => ?_⟩
    dsimp only
    rw [isN_v r1]
    exact q1 _ _ s1 rep_bl
end
end Py
/-! Displays, subscripts, attributes, calls of built-ins. -/
namespace Py
open PySem L2 PySem.Spec PyProof.Rows
/-- values and data, one by one -/
theorem paired_rep {K : Frag} {A : AS} {H : Hp} : ∀ {vs : List V} {ds : List D}, Paired (fun v d => Rep K A H d v) vs ds → RepL K A H ds vs
  | _, _, .nil => by simp [RepL]
  | _, _, .cons r t => by
    simp only [RepL]
    exact ⟨_, _, rfl, r, paired_rep t⟩
section
variable {X : Cx} {W : WX} {A : AS} {H0 : Base} {ow : Ow} {a b c e : Expr} {es : List Expr} {m ma mb mc : EM} {am : AM} {pos : Pos}
/-! ### argument lists -/
abbrev aE (K : Frag) := tA (Rep K) K
theorem xa_nil {R : RR} : PA X [] (tA R X.K W ow argN) := PA.of pa_nil fun σ H Q ⟨A, H0, O, en, R', q⟩ => q [] H (Same.refl H) .nil
theorem xa_cons (ha : PE X e (tE X.K W ow m)) (hr : PA X es (aE X.K W ow am)) (hs : starEach (e :: es) X.env = (false, eval e X.env) :: starEach es X.env := by rfl) : PA X (e :: es) (aE X.K W ow (argC m am)) :=
  PA.of (pa_cons ha hr hs) fun σ H Q ⟨A, H0, O, en, R, q⟩ => ⟨A, H0, O, en, R, (Out.bind q).good fun d q1 v H1 s1 r1 => ⟨A, H0, O, en, R.to s1, ((Out.bind q1).to s1).good fun ds q2 vs H2 s2 r2 =>
    q2 (v :: vs) H2 (s1.trans s2) (.cons (Rep.move (Mv.same s2) _ _ r1) r2)⟩⟩
/-! ### displays -/
theorem x_tup {x1} (h : PA X es (aE X.K W ow am)) : PE X (.Tuple es x1 pos) (tE X.K W ow (tupE am)) :=
  PE.of (pe_tup h) fun σ H Q ⟨A, H0, O, en, R, q⟩ => ⟨A, H0, O, en, R, (Out.bind q).good fun ds q1 vs H1 s1 r1 => by
    have rl := paired_rep r1
    unfold chk at q1
    split at q1
    · rename_i z
      exact ⟨by rw [← rl.length]; exact z, fun p hp => q1 _ _ (s1.trans (new_same hp)) (new_tup rl hp)⟩
    · exact q1.elim⟩
theorem f_lst (h : PA X es (aE X.K W ow am)) : PE X (.List es pos) (tF X.K W ow (lstE am)) :=
  PE.of (pe_lst h) fun σ H Q ⟨A, H0, O, en, R, q⟩ => ⟨A, H0, O, en, R, (Out.bind q).good fun ds q1 vs H1 s1 r1 => by
    have rl := paired_rep r1
    unfold chk at q1
    split at q1
    · rename_i z
      refine ⟨by rw [← rl.length]; exact z, fun p hp => q1 p _ (s1.free hp) (s1.trans (new_same hp)) ⟨vs, upd_same, ?_⟩⟩
      refine RepL.move ⟨fun b hb => ?_, fun b o e _ => new_same hp b o e⟩ _ _ rl
      rcases hb with hb | rfl
      · exact .inl hb
      · exact .inr hp
    · exact q1.elim⟩
/-! ### subscripts -/
def r2n (K : Frag) (f : D → D → Res D) : R2 := fun x y H Q => ∃ A d1 d2 d, isDic d1 = false ∧ RepW K A H d1 x ∧ RepW K A H d2 y ∧ (∀ a, A a → H a ≠ none) ∧ f d1 d2 = .ok d ∧ ∀ v H', Same H H' → Rep K A H' d v → Q v H'
theorem y_idx0 : IxR X (r2n X.K oidx) := by
  intro value slice pins s σ H x y v u Q I rx ry ⟨A, d1, d2, d, hnd, h1, h2, ha, e, k⟩ hs
  cases d1 with
  | lst xs =>
    cases d2 <;> simp only [oidx, reduceCtorEq] at e
    rename_i i
    obtain ⟨a, vs, rfl, q, r⟩ := h1
    unfold opt at e
    split at e
    · rename_i d' he
      simp only [Res.ok.injEq] at e
      subst e
      unfold atI at he
      cases hj : ixN xs.length i with
      | none => rw [hj] at he; cases he
      | some j =>
        rw [hj] at he
        obtain ⟨w, hw, rw'⟩ := r.get (show xs[j]? = some d' from he)
        refine ix_list value slice pins s σ H _ _ v u Q I rx ry ⟨a, vs, i, w, rfl, h2, .inl q, ?_, k w H (Same.refl H) rw'⟩ hs
        unfold atI
        rw [← r.length, hj]
        exact hw
    · cases e
  | tup xs =>
    cases d2 <;> simp only [oidx, reduceCtorEq] at e
    rename_i i
    obtain ⟨a, vs, rfl, q, r⟩ := (by simpa only [RepW, Rep] using h1 : ∃ a vs, x = .ref a ∧ SqT X.K H a vs ∧ RepL X.K A H xs vs)
    unfold opt at e
    split at e
    · rename_i d' he
      simp only [Res.ok.injEq] at e
      subst e
      unfold atI at he
      cases hj : ixN xs.length i with
      | none => rw [hj] at he; cases he
      | some j =>
        rw [hj] at he
        obtain ⟨w, hw, rw'⟩ := r.get (show xs[j]? = some d' from he)
        refine ix_tup value slice pins s σ H _ _ v u Q I rx ry ⟨a, vs, i, w, rfl, h2, q, ?_, k w H (Same.refl H) rw'⟩ hs
        unfold atI
        rw [← r.length, hj]
        exact hw
    · cases e
  | str z =>
    cases d2 <;> simp only [oidx, reduceCtorEq] at e
    rename_i i
    split at e
    · rename_i hz
      have h1' : x = .str (Str.ofString z) := h1
      have h2' : y = .int i := h2
      subst h1' h2'
      unfold opt at e
      split at e
      · rename_i d' he
        simp only [Res.ok.injEq] at e
        subst e
        unfold atI at he
        cases hj : ixN z.toList.length i with
        | none => rw [hj] at he; cases he
        | some j =>
          rw [hj] at he
          have he1 : Option.map (fun c => D.str (String.ofList [c])) (z.toList[j]?) = some d' := he
          cases hc : z.toList[j]? with
          | none => rw [hc] at he1; cases he1
          | some ch =>
            rw [hc] at he1
            have he2 : D.str (String.ofList [ch]) = d' := Option.some.inj he1
            subst he2
            have e1 : (Str.ofString z).cps.toList = z.toList.map Char.toNat := by rw [Str.ofString_eq_toList]
            refine ix_str value slice pins s σ H _ _ v u Q I rx ry ⟨_, i, ch.toNat, rfl, rfl, by rw [str_len]; exact hz, ?_, ?_⟩ hs
            · unfold atI
              rw [e1, List.length_map, hj]
              show (List.map Char.toNat z.toList)[j]? = _
              rw [List.getElem?_map, hc]
              rfl
            · have e2 : Str.ofString (String.ofList [ch]) = ⟨#[ch.toNat]⟩ := by
                rw [Str.ofString_eq_toList, String.toList_ofList]
                rfl
              rw [← e2]
              exact k _ H (Same.refl H) rfl
      · cases e
    · cases e
  | dic t kvs => simp [isDic] at hnd
  | _ => simp [oidx] at e
theorem y_idx (hu : X.A.units + 16 < cLine) : IxR X (r2 X.K oidx) := by
  intro value slice pins s σ H x y v u Q I rx ry ⟨A, d1, d2, d, h1, h2, ha, e, k⟩ hs
  cases hnd : isDic d1 with
  | false => exact y_idx0 value slice pins s σ H x y v u Q I rx ry ⟨A, d1, d2, d, hnd, h1, h2, ha, e, k⟩ hs
  | true =>
    cases d1 <;> simp only [isDic, reduceCtorEq] at hnd
    rename_i t kvs
    simp only [oidx] at e
    split at e
    · rename_i hk
      obtain ⟨a, rfl, g⟩ := h1
      cases (show v = Value.ref a from rx)
      have h2' : Rep X.K A H d2 y := by
        cases d2 <;> first | exact h2 | (cases t <;> simp [keyOk] at hk)
      unfold opt at e
      split at e
      · rename_i d' hf
        simp only [Res.ok.injEq] at e
        subst e
        exact tail_any (dic_type I g) slot_dict_getitem.lookup (dic_get hu I g hk h2' ry hf fun v w' s' I' r' rv => ⟨v, H, I', r', k v H (Same.refl H) rv⟩) hs
      · cases e
    · cases e
theorem n_idx : NoEx2 oidx := fun x y c fs => by
  have ho : ∀ o, (opt o).isP = true := fun o => by cases o <;> rfl
  cases x <;> cases y <;> simp only [oidx] <;> first | rfl | exact ho _ | (split <;> first | exact ho _ | rfl)
theorem x_idx (hi : IxR X (r2 X.K oidx)) (ha : PE X a (tW X.K W ow ma)) (hb : PE X b (tW X.K W ow mb)) (hs : PlainIx b := by exact fun _ _ => rfl) : PE X (.Subscript a b pos) (tE X.K W ow (bin oidx ma mb)) :=
  PE.of (pe_ix hi ha hb hs) fun _ _ _ h => two_of n_idx h
/-! ### slices -/
theorem RepL.cut {K : Frag} {A : AS} {H : Hp} {ds : List D} {vs : List V} (h : RepL K A H ds vs) (lo hi : Option Int) : RepL K A H (Py.cut ds lo hi) (cutV vs lo hi) := by
  unfold Py.cut cutV
  rw [h.length]
  exact (h.drop _).take _
def rS (K : Frag) : V → Option Int → Option Int → Hp → VK → Prop := fun x lo hi H Q => ∃ A d1 d, RepW K A H d1 x ∧ (∀ a, A a → H a ≠ none) ∧ oslc d1 lo hi = .ok d ∧ ∀ v H', Same H H' → Rep K A H' d v → Q v H'
theorem cut_all {α : Type} {xs : List α} {lo hi : Option Int} (h : HT.sIx xs.length 0 lo = 0 ∧ HT.sIx xs.length xs.length hi = xs.length) : Py.cut xs lo hi = xs := by
  unfold Py.cut
  rw [h.1, h.2]
  simp
theorem y_slc : SlR X (rS X.K) := by
  intro pins s σ H x v vl vu lo hi sl Q I rx hs pl' pu h
  obtain ⟨A, d1, d, h1, ha, e, k⟩ := h
  cases d1 with
  | lst xs =>
    simp only [oslc, Res.ok.injEq] at e
    subst e
    obtain ⟨a, vs, rfl, q, r⟩ := h1
    exact sl_list pins s σ H _ v vl vu lo hi sl Q I rx hs pl' pu ⟨a, vs, rfl, .inl q, fun p hp => k _ _ (new_same hp) (new_lst ha (r.cut lo hi) hp)⟩
  | tup xs =>
    simp only [oslc, Res.ok.injEq] at e
    subst e
    obtain ⟨a, vs, rfl, q, r⟩ := (by simpa only [RepW, Rep] using h1 : ∃ a vs, x = .ref a ∧ SqT X.K H a vs ∧ RepL X.K A H xs vs)
    refine sl_tupA pins s σ H _ v vl vu lo hi sl Q I rx hs pl' pu ⟨a, vs, rfl, q, fun z => ?_, fun _ p hp => k _ _ (new_same hp) (new_tup (r.cut lo hi) hp)⟩
    rw [← r.length] at z
    rw [cut_all z] at k
    exact k _ H (Same.refl H) h1
  | str z =>
    simp only [oslc] at e
    split at e
    · rename_i hz
      simp only [Res.ok.injEq] at e
      subst e
      have h1' : x = .str (Str.ofString z) := h1
      subst h1'
      refine sl_str pins s σ H _ v vl vu lo hi sl Q I rx hs pl' pu ⟨_, rfl, by rw [str_len]; exact hz, ?_⟩
      have e1 : cutS (Str.ofString z) lo hi = Str.ofString (String.ofList (Py.cut z.toList lo hi)) := by
        rw [Str.ofString_eq_toList (String.ofList _), String.toList_ofList]
        unfold cutS Py.cut
        rw [str_len]
        rw [Str.ofString_eq_toList]
        simp [List.map_take, List.map_drop, String.length_toList]
      rw [e1]
      exact k _ H (Same.refl H) rfl
    · cases e
  | _ => simp [oslc] at e
end
end Py
/-! Slices as expressions, attributes, calls of built-ins, isinstance. -/
namespace Py
open PySem L2
/-! ### own classes: what isinstance and attributes ask -/
structure KitC (K : Frag) (cs : List String) (c : String) : Prop where
  cl : Cls K (ca K c)
  ha : PySem.W.findIn K (.ref (ca K c)) "__class__" = some (some (.builtin "object.__class__"))
  hn : PySem.W.specialIn K (.builtin "object.__class__") "__get__" = some (some (.builtin "getset_descriptor.__get__"))
  ht : PySem.W.takesIn K (.builtin "object.__class__") = some true
  hm : PySem.W.mroIn K (ca K c) (.type "object") = some true
  oo : ∀ d ∈ cs, PySem.W.kitOne K (.ref (ca K c)) (.ref (ca K d)) = some (decide (c = d))
  ob : ∀ T ∈ tyNames, PySem.W.kitOne K (.ref (ca K c)) (.type T) = some false
  bo : ∀ T ∈ tyNames, PySem.W.kitOne K (.type T) (.ref (ca K c)) = some false
def KitF (K : Frag) (cs : List String) : Prop := ∀ c ∈ cs, KitC K cs c
theorem kit_of_b {K : Frag} {cs : List String} (h : kitB K cs = true) : KitF K cs := fun c hc => by
  have h1 := List.all_eq_true.mp h c hc
  simp only [Bool.and_eq_true, decide_eq_true_eq, List.all_eq_true] at h1
  obtain ⟨a1, a2, a3, a4, a5, a6, a7⟩ := h1
  exact ⟨He.cls_ok a1, a2, a3, a4, a5, a6, fun T hT => (a7 T hT).1, fun T hT => (a7 T hT).2⟩
def tyN : Ty → String
  | .non => "NoneType" | .bl => "bool" | .int => "int" | .str => "str" | .tup => "tuple" | .lst => "list" | .dic => "dict" | .cls c => c
def tyV (K : Frag) : Ty → V
  | .cls c => .ref (ca K c)
  | t => .ty (tyN t)
def tyU (K : Frag) : Ty → Value
  | .cls c => .ref (ca K c)
  | t => .type (tyN t)
theorem ty_cls (K : Frag) (t : Ty) : ClsV (tyV K t) (tyU K t) := by
  cases t <;> first | exact .ty _ | exact .own _
theorem isI_ty (t : Ty) (d : D) (h : t ≠ .non) : isI t d = (decide (t = tyOf d) || (decide (tyOf d = .bl) && decide (t = .int))) := by
  cases d <;> cases t <;> simp [isI, tyOf] at h ⊢
theorem kit_one {K : Frag} {cs : List String} (F : KitF K cs) {t : Ty} {d : D} (h1 : inCs cs t = true) (h2 : inCs cs (tyOf d) = true) (hn : t ≠ .non) : PySem.W.kitOne K (tyU K (tyOf d)) (tyU K t) = some (isI t d) := by
  rw [isI_ty t d hn]
  cases ht : t with
  | cls c =>
    subst ht
    have hc : c ∈ cs := by simpa [inCs] using h1
    cases hd : tyOf d with
    | cls c' =>
      rw [hd] at h2
      have hc' : c' ∈ cs := by simpa [inCs] using h2
      have := (F c' hc').oo c hc
      show PySem.W.kitOne K (.ref (ca K c')) (.ref (ca K c)) = _
      rw [this]
      by_cases q : c = c'
      · subst q
        simp
      · have q2 : ¬ c' = c := fun z => q z.symm
        simp [q, q2]
    | _ =>
      show PySem.W.kitOne K (.type _) (.ref (ca K c)) = _
      rw [(F c hc).bo _ (by decide)]
      simp
  | non => exact absurd ht hn
  | _ =>
    cases hd : tyOf d with
    | cls c' =>
      rw [hd] at h2
      have hc' : c' ∈ cs := by simpa [inCs] using h2
      show PySem.W.kitOne K (.ref (ca K c')) (.type _) = _
      rw [(F c' hc').ob _ (by decide)]
      simp
    | _ => exact L2.kit_ty (by rw [← show tyN _ = _ from rfl]; decide +kernel)
theorem tyx_of {K : Frag} {cs : List String} (F : KitF K cs) {A : AS} {H : Hp} {d : D} {v : V} (h : RepW K A H d v) (h2 : inCs cs (tyOf d) = true) : TyX K H v (tyU K (tyOf d)) := by
  cases d with
  | non =>
    have h' : v = .non := h
    subst h'
    exact .base .non
  | bl b =>
    have h' : v = .bl b := h
    subst h'
    exact .base (.bl _)
  | int b =>
    have h' : v = .int b := h
    subst h'
    exact .base (.int _)
  | str b =>
    have h' : v = .str (Str.ofString b) := h
    subst h'
    exact .base (.str _)
  | tup xs =>
    obtain ⟨a, vs, rfl, q, r⟩ := (by simpa only [RepW, Rep] using h : ∃ a vs, v = .ref a ∧ SqT K H a vs ∧ RepL K A H xs vs)
    rcases q with (q | ⟨o, q⟩) | ⟨o, its, n, q1, q2, _⟩
    · exact .base (.tup q)
    · exact .fTuple q
    · exact .kTuple q1 q2
  | lst xs =>
    obtain ⟨a, vs, rfl, q, r⟩ := h
    rcases q with q | ⟨o, q⟩
    · exact .base (.lst q)
    · exact .base (.frz q)
  | dic _ _ => simp [inCs, tyOf] at h2
  | drw _ => simp [inCs, tyOf] at h2
  | ins c fs =>
    obtain ⟨a, dx, fvs, rfl, q, _⟩ := h
    have hc : c ∈ cs := by simpa [inCs, tyOf] using h2
    have k := F c hc
    exact .base (.ins q k.cl k.ha k.hn k.ht k.hm)
/-- isinstance(x, (t1, t2, ..)) -/
theorem n_isi {cs : List String} {ts : List Ty} : NoEx1 (oisi cs ts) := fun x c fs => by
  unfold oisi
  split <;> rfl
theorem isi_ok {cs : List String} {ts : List Ty} {d r : D} (h : oisi cs ts d = .ok r) : inCs cs (tyOf d) = true ∧ (∀ t ∈ ts, inCs cs t = true ∧ t ≠ .non) ∧ r = .bl (ts.any fun t => isI t d) := by
  unfold oisi at h
  split at h
  · rename_i c
    simp only [Bool.and_eq_true, List.all_eq_true, decide_eq_true_eq] at c
    simp only [Res.ok.injEq] at h
    exact ⟨c.1, c.2, h.symm⟩
  · cases h
theorem kit_any {K : Frag} {cs : List String} (F : KitF K cs) {d : D} (h2 : inCs cs (tyOf d) = true) : ∀ {ts : List Ty}, (∀ t ∈ ts, inCs cs t = true ∧ t ≠ .non) → PySem.W.kitAny K (tyU K (tyOf d)) (ts.map (tyU K)) = some (ts.any fun t => isI t d)
  | [], _ => rfl
  | t :: ts, h => by
    obtain ⟨a1, a2⟩ := h t (by simp)
    simp only [List.map_cons, List.any_cons]
    refine L2.kitAny_cons (kit_one F a1 h2 a2) (fun e => ?_) fun e => by rw [e]; rfl
    rw [e, Bool.false_or]
    exact kit_any F h2 fun t' h' => h t' (by simp [h'])
theorem RepL.reverse {K : Frag} {A : AS} {H : Hp} : ∀ {ds : List D} {vs : List V}, RepL K A H ds vs → RepL K A H ds.reverse vs.reverse
  | [], vs, h => by
    simp only [RepL] at h
    subst h
    simp [RepL]
  | d :: ds, vs, h => by
    simp only [RepL] at h
    obtain ⟨v, r, rfl, h1, h2⟩ := h
    simp only [List.reverse_cons]
    exact (RepL.reverse h2).append (RepL.one h1)
section
variable {X : Cx} {W : WX} {A : AS} {H0 : Base} {ow : Ow} {a b c e : Expr} {es : List Expr} {m ma mb mc : EM} {am : AM} {pos : Pos}
theorem x_isi1 {cs : List String} {t : Ty} {x : Str} {p : Pos} (hx : x = "isinstance") (F : KitF X.K cs) (hg : Gl X x) (hm : X.mg x = none) (ha : PE X a (tW X.K W ow ma)) (hb : PE X b (tC (tyV X.K t)))
    (hs : starEach [a, b] X.env = (false, eval a X.env) :: starEach [b] X.env := by rfl) (hs2 : starEach [b] X.env = [(false, eval b X.env)] := by rfl) (hpl : (backTo pos (starEach [b] X.env)).any (·.1) = false := by rfl) :
    PE X (.Call (.Name x p) [a, b] [] pos) (tE X.K W ow (un (oisi cs [t]) ma)) := by
  subst hx
  refine PE.of (pe_callB call_isi hg hm (by decide +kernel) (pa_cons ha (pa_cons hb pa_nil hs2) hs) (by decide) (by decide) hs hpl) fun σ H Q ⟨A, H0, O, en, R, q⟩ => ⟨A, H0, O, en, R, (Out.bind q).good fun d q1 v H1 s1 r1 => ?_⟩
  cases e : oisi cs [t] d with
  | exc _ _ =>
    rw [e] at q1
    exact absurd (e ▸ n_isi (cs := cs) d () () : (Res.exc _ _ : Res D).isP = true) (by simp [Res.isP])
  | pick _ _ =>
    exact absurd (e ▸ n_isi (cs := cs) d () () : (Res.pick _ _ : Res D).isP = true) (by simp [Res.isP])
  | stuck =>
    rw [e] at q1
    exact q1.elim
  | ok r =>
    rw [e] at q1
    obtain ⟨h1, h2, rfl⟩ := isi_ok e
    obtain ⟨h3, h4⟩ := h2 t (by simp)
    refine ⟨v, tyV X.K t, tyU X.K (tyOf d), tyU X.K t, isI t d, rfl, ty_cls _ _, tyx_of F r1 h1, kit_one F h3 h1 h4, ?_⟩
    have q2 := q1 (.bl ([t].any fun t => isI t d)) H1 s1 rep_bl
    simpa using q2
/-- a tuple of classes as written -/
inductive TyL (X : Cx) : List Expr → List Ty → TA → Prop
  | nil : TyL X [] [] tNil
  | cons {e : Expr} {es : List Expr} {t : Ty} {ts : List Ty} {r : TA} (h : PE X e (tC (tyV X.K t))) (k : TyL X es ts r) (hs : starEach (e :: es) X.env = (false, eval e X.env) :: starEach es X.env) : TyL X (e :: es) (t :: ts) (tCons (tC (tyV X.K t)) r)
theorem TyL.pa {es : List Expr} {ts : List Ty} {r : TA} (h : TyL X es ts r) : PA X es r := by
  induction h with
  | nil => exact pa_nil
  | cons h _ hs ih => exact pa_cons h ih hs
theorem TyL.run {es : List Expr} {ts : List Ty} {r : TA} (h : TyL X es ts r) : ∀ {σ : L2.St} {H : Hp} {Q : List V → Hp → Prop}, Q (ts.map (tyV X.K)) H → r σ H Q := by
  induction h with
  | nil => exact fun q => q
  | cons h _ hs ih => exact fun q => ih (Q := fun xs H2 => _) q
theorem ty_all (K : Frag) : ∀ ts : List Ty, Paired ClsV (ts.map (tyV K)) (ts.map (tyU K))
  | [] => .nil
  | t :: ts => .cons (ty_cls K t) (ty_all K ts)
theorem x_isiT {cs : List String} {ts : List Ty} {r : TA} {x : Str} {p tp : Pos} {tk} (hx : x = "isinstance") (F : KitF X.K cs) (hg : Gl X x) (hm : X.mg x = none) (ha : PE X a (tW X.K W ow ma)) (hb : TyL X es ts r) (hz : ts.length ≤ 20)
    (hs : starEach [a, .Tuple es tk tp] X.env = (false, eval a X.env) :: starEach [.Tuple es tk tp] X.env := by rfl) (hs2 : starEach [.Tuple es tk tp] X.env = [(false, eval (.Tuple es tk tp) X.env)] := by rfl) (hpl : (backTo pos (starEach [.Tuple es tk tp] X.env)).any (·.1) = false := by rfl) :
    PE X (.Call (.Name x p) [a, .Tuple es tk tp] [] pos) (tE X.K W ow (un (oisi cs ts) ma)) := by
  subst hx
  refine PE.of (pe_callB call_isiT hg hm (by decide +kernel) (pa_cons ha (pa_cons (pe_tup hb.pa) pa_nil hs2) hs) (by decide) (by decide) hs hpl) fun σ H Q ⟨A, H0, O, en, R, q⟩ => ⟨A, H0, O, en, R, (Out.bind q).good fun d q1 v H1 s1 r1 => ?_⟩
  cases e : oisi cs ts d with
  | exc _ _ =>
    rw [e] at q1
    exact absurd (e ▸ n_isi (cs := cs) d () () : (Res.exc _ _ : Res D).isP = true) (by simp [Res.isP])
  | pick _ _ =>
    exact absurd (e ▸ n_isi (cs := cs) d () () : (Res.pick _ _ : Res D).isP = true) (by simp [Res.isP])
  | stuck =>
    rw [e] at q1
    exact q1.elim
  | ok r =>
    rw [e] at q1
    obtain ⟨h1, h2, rfl⟩ := isi_ok e
    refine hb.run ⟨by rw [List.length_map]; exact Nat.le_trans hz (by decide), fun p hp => ?_⟩
    exact ⟨v, p, ts.map (tyV X.K), tyU X.K (tyOf d), ts.map (tyU X.K), _, rfl, upd_same, ty_all _ _, tyx_of F (r1.move (new_same hp)) h1, kit_any F h1 h2, q1 _ _ (s1.trans (new_same hp)) rep_bl⟩
/-! ### attributes -/
theorem x_attr {cs : List String} {f : String} (F : ∀ c ∈ cs, Cls X.K (ca X.K c) ∧ NoAttr X.K (ca X.K c) (Str.ofString f)) (ha : PE X a (tW X.K W ow ma))
    (hb : attributeBase a (Str.ofString f) X.env (eval a X.env) = eval a X.env := by rfl) : PE X (.Attribute a (Str.ofString f) pos) (tE X.K W ow (un (oattr cs f) ma)) :=
  PE.of (pe_fld ha hb) fun σ H Q ⟨A, H0, O, en, R, q⟩ => ⟨A, H0, O, en, R, (Out.bind q).good fun d q1 v H1 s1 r1 => by
    cases d with
    | ins c fs =>
      simp only [oattr] at q1
      split at q1
      · rename_i hc
        obtain ⟨h1, h2⟩ := F c (by simpa using hc)
        obtain ⟨p, dx, fvs, rfl, q2, r2⟩ := r1
        have lk := r2.look (f := f)
        cases hl : fs.lookup f with
        | none =>
          rw [hl] at q1
          exact q1.elim
        | some d' =>
          rw [hl] at q1 lk
          obtain ⟨v', e1, r'⟩ := lk
          exact ⟨p, _, dx, fvs, v', rfl, q2, h1, h2, e1, q1 v' H1 s1 r'⟩
      · exact q1.elim
    | _ => exact q1.elim⟩
/-! ### slices -/
/-- a part of a slice -/
def tO (K : Frag) (W : WX) (ow : Ow) (m : Option EM) : TO := fun σ H Q => ∃ A H0 O e, ER K A H0 ow O σ H e ∧
  Out (slc.bnd m e) (fun o => ∀ H', Same H H' → Q o H') (badE K W A O σ H)
theorem o_none : PO X none (tO X.K W ow none) := ⟨fun pins s σ H Q I ⟨A, H0, O, en, R, q⟩ => po_none.run pins s σ H Q I (q H (Same.refl H))⟩
theorem o_some (h : PE X e (tE X.K W ow m)) : PO X (some e) (tO X.K W ow (some m)) := ⟨fun pins s σ H Q I ⟨A, H0, O, en, R, q⟩ => (po_some h).run pins s σ H Q I ⟨A, H0, O, en, R, (Out.bind q).good fun d q1 v H1 s1 r1 => by
  cases d with
  | int i => exact ⟨i, r1, q1 H1 s1⟩
  | _ => exact q1.elim⟩⟩
theorem x_slc {lo hi : Option Expr} {ml mh : Option EM} {p2 : Pos} (ha : PE X a (tW X.K W ow ma)) (hl : PO X lo (tO X.K W ow ml)) (hh : PO X hi (tO X.K W ow mh)) : PE X (.Subscript a (.Slice lo hi none p2) pos) (tE X.K W ow (slc ma ml mh)) :=
  PE.of (pe_slice y_slc ha hl hh) fun σ H Q ⟨A, H0, O, en, R, q⟩ => ⟨A, H0, O, en, R, (Out.bind q).good fun d q1 v H1 s1 r1 => ⟨A, H0, O, en, R.to s1, ((Out.bind q1).to s1).good fun i q2 H2 s2 => ⟨A, H0, O, en, (R.to s1).to s2, ((Out.bind q2).to (s1.trans s2)).good fun j q3 H3 s3 => by
    cases e : oslc d i j with
    | ok z =>
      rw [e] at q3
      exact ⟨_, d, z, r1.move (s2.trans s3), (((R.to s1).to s2).to s3).there, e, fun v' H' s' r' => q3 v' H' (((s1.trans s2).trans s3).trans s') r'⟩
    | exc c fs =>
      exfalso
      cases d <;> simp only [oslc, reduceCtorEq] at e
      split at e <;> cases e
    | pick c fs =>
      exfalso
      cases d <;> simp only [oslc, reduceCtorEq] at e
      split at e <;> cases e
    | stuck =>
      rw [e] at q3
      exact q3.elim⟩⟩⟩
/-! ### built-in calls -/
def c1 (K : Frag) (f : D → Res D) : List V → Hp → VK → Prop := fun vs H Q => ∃ x, vs = [x] ∧ r1 K f x H Q
def c2 (K : Frag) (f : D → D → Res D) : List V → Hp → VK → Prop := fun vs H Q => ∃ x y, vs = [x, y] ∧ r2 K f x y H Q
theorem cimp {f : Value} {r r' : List V → Hp → VK → Prop} (h : CallR X f r) (k : ∀ x H Q, r' x H Q → r x H Q) : CallR X f r' := fun pins s σ H xs us Q I rx q => h pins s σ H xs us Q I rx (k xs H Q q)
theorem x_b1 {id : String} {x : Str} {p : Pos} {f : D → Res D} (hc : CallR X (.builtin id) (c1 X.K f)) (hf : NoEx1 f) (hg : Gl X x) (hm : X.mg x = none) (hv : bootBuiltins x = some (.builtin id)) (ha : PE X a (tW X.K W ow ma)) (hn : x ≠ "__name__" := by decide) (hdb : (x == ("__debug__" : Str)) = false := by decide)
    (hs : starEach [a] X.env = [(false, eval a X.env)] := by rfl) : PE X (.Call (.Name x p) [a] [] pos) (tE X.K W ow (un f ma)) :=
  PE.of (pe_callB hc hg hm hv (pa_cons ha pa_nil hs) hn hdb hs (by rfl)) fun σ H Q h => by
    obtain ⟨A, H0, O, en, R, q⟩ := one_of hf h
    exact ⟨A, H0, O, en, R, q.good fun d k v H' s r => ⟨v, rfl, k v H' s r⟩⟩
theorem x_t1 {id : String} {x : Str} {p : Pos} {f : D → Res D} (hc : CallR X (.type id) (c1 X.K f)) (hf : NoEx1 f) (hg : Gl X x) (hm : X.mg x = none) (hv : bootBuiltins x = some (.type id)) (ha : PE X a (tW X.K W ow ma)) (hn : x ≠ "__name__" := by decide) (hdb : (x == ("__debug__" : Str)) = false := by decide)
    (hs : starEach [a] X.env = [(false, eval a X.env)] := by rfl) : PE X (.Call (.Name x p) [a] [] pos) (tE X.K W ow (un f ma)) :=
  PE.of (pe_callTy hc hg hm hv (pa_cons ha pa_nil hs) hn hdb hs (by rfl)) fun σ H Q h => by
    obtain ⟨A, H0, O, en, R, q⟩ := one_of hf h
    exact ⟨A, H0, O, en, R, q.good fun d k v H' s r => ⟨v, rfl, k v H' s r⟩⟩
theorem x_b2 {id : String} {x : Str} {p : Pos} {f : D → D → Res D} (hc : CallR X (.builtin id) (c2 X.K f)) (hf : NoEx2 f) (hg : Gl X x) (hm : X.mg x = none) (hv : bootBuiltins x = some (.builtin id)) (ha : PE X a (tW X.K W ow ma)) (hb : PE X b (tW X.K W ow mb)) (hn : x ≠ "__name__" := by decide) (hdb : (x == ("__debug__" : Str)) = false := by decide)
    (hs : starEach [a, b] X.env = (false, eval a X.env) :: starEach [b] X.env := by rfl) (hs2 : starEach [b] X.env = [(false, eval b X.env)] := by rfl) (hpl : (backTo pos (starEach [b] X.env)).any (·.1) = false := by rfl) : PE X (.Call (.Name x p) [a, b] [] pos) (tE X.K W ow (bin f ma mb)) :=
  PE.of (pe_callB hc hg hm hv (pa_cons ha (pa_cons hb pa_nil hs2) hs) hn hdb hs hpl) fun σ H Q h => by
    obtain ⟨A, H0, O, en, R, q⟩ := two_of hf h
    refine ⟨A, H0, O, en, R, q.good fun d k v H' s r => ?_⟩
    obtain ⟨A2, H02, O2, en2, R2, q2⟩ := k v H' s r
    exact ⟨A2, H02, O2, en2, R2, q2.good fun d2 k2 v2 H2 s2 r2' => ⟨v, v2, rfl, k2 v2 H2 s2 r2'⟩⟩
theorem v_len0 : CallR X (.builtin "len") (fun vs H Q => ∃ x, vs = [x] ∧ ∃ A d1 d, isDic d1 = false ∧ RepW X.K A H d1 x ∧ blen d1 = .ok d ∧ ∀ v H', Same H H' → Rep X.K A H' d v → Q v H') := cimp call_len fun xs H Q ⟨x, e0, A, d1, d, hnd, h1, e, k⟩ => by
  subst e0
  cases d1 with
  | str s =>
    simp only [blen] at e
    split at e
    · rename_i hz
      simp only [Res.ok.injEq] at e
      subst e
      have h' : x = .str (Str.ofString s) := h1
      subst h'
      exact ⟨_, s.length, rfl, ⟨by rw [str_len]; exact hz, (str_len s).symm⟩, k _ H (Same.refl H) (flat_rep rfl _ _)⟩
    · cases e
  | tup xs =>
    simp only [blen, Res.ok.injEq] at e
    subst e
    obtain ⟨a, vs, rfl, q, r⟩ := (by simpa only [RepW, Rep] using h1 : ∃ a vs, x = .ref a ∧ SqT X.K H a vs ∧ RepL X.K A H xs vs)
    refine ⟨_, xs.length, rfl, .inr ⟨vs, q, r.length⟩, k _ H (Same.refl H) (flat_rep rfl _ _)⟩
  | lst xs =>
    simp only [blen, Res.ok.injEq] at e
    subst e
    obtain ⟨a, vs, rfl, q, r⟩ := h1
    refine ⟨_, xs.length, rfl, .inl ⟨vs, .inl q, r.length⟩, k _ H (Same.refl H) (flat_rep rfl _ _)⟩
  | dic t kvs => simp [isDic] at hnd
  | _ => simp [blen] at e
theorem v_len : CallR X (.builtin "len") (c1 X.K blen) := fun pins s σ H xs us Q I rx ⟨x, e0, A, d1, d, h1, ha, e, k⟩ => by
  cases hnd : isDic d1 with
  | false => exact v_len0 pins s σ H xs us Q I rx ⟨x, e0, A, d1, d, hnd, h1, e, k⟩
  | true =>
    cases d1 <;> simp only [isDic, reduceCtorEq] at hnd
    simp only [blen, Res.ok.injEq] at e
    subst e
    obtain ⟨a, rfl, g⟩ := h1
    subst e0
    cases rx with
    | cons r rr =>
      cases rr
      cases (show _ = Value.ref a from r)
      exact dic_len I g RepT.len RepK.len fun t' s' I' => ⟨.int _, H, I', ⟨t', rfl⟩, k _ H (Same.refl H) (flat_rep rfl _ _)⟩
theorem n_len : NoEx1 blen := fun x c fs => by
  cases x <;> simp only [blen] <;> first | (split <;> rfl) | rfl
theorem v_int : CallR X (.type "int") (c1 X.K bint) := cimp call_int1 fun xs H Q ⟨x, e0, A, d1, d, h1, _, e, k⟩ => by
  subst e0
  cases d1 with
  | int i =>
    simp only [bint, Res.ok.injEq] at e
    subst e
    have h' : x = .int i := h1
    subst h'
    exact .inl ⟨i, rfl, k _ H (Same.refl H) (flat_rep rfl _ _)⟩
  | bl b =>
    simp only [bint, Res.ok.injEq] at e
    subst e
    have h' : x = .bl b := h1
    subst h'
    exact .inr ⟨b, rfl, k _ H (Same.refl H) (flat_rep rfl _ _)⟩
  | _ => simp [bint] at e
theorem n_int : NoEx1 bint := fun x c fs => by cases x <;> rfl
theorem v_tuple : CallR X (.type "tuple") (c1 X.K btuple) := cimp call_tuple_of fun xs H Q ⟨x, e0, A, d1, d, h1, ha, e, k⟩ => by
  subst e0
  cases d1 with
  | lst xs =>
    simp only [btuple, Res.ok.injEq] at e
    subst e
    obtain ⟨a, vs, rfl, q, r⟩ := h1
    exact ⟨a, vs, rfl, .inl ⟨.inl q, fun l hl => k _ _ (new_same hl) (new_tup r hl)⟩⟩
  | tup xs =>
    simp only [btuple, Res.ok.injEq] at e
    subst e
    obtain ⟨a, vs, rfl, q, r⟩ := (by simpa only [RepW, Rep] using h1 : ∃ a vs, x = .ref a ∧ SqT X.K H a vs ∧ RepL X.K A H xs vs)
    exact ⟨a, vs, rfl, .inr ⟨q, k _ H (Same.refl H) h1⟩⟩
  | _ => simp [btuple] at e
theorem n_tuple : NoEx1 btuple := fun x c fs => by cases x <;> rfl
theorem ints_of {K : Frag} {A : AS} {H : Hp} : ∀ {ds : List D} {vs : List V} {is : List Int}, RepL K A H ds vs → intsOf ds = some is → vs = is.map V.int
  | [], vs, is, h, e => by
    simp only [RepL] at h
    simp only [intsOf, Option.some.injEq] at e
    subst h e
    rfl
  | d :: ds, vs, is, h, e => by
    simp only [RepL] at h
    obtain ⟨v, r, rfl, h1, h2⟩ := h
    cases d with
    | int i =>
      simp only [intsOf] at e
      cases q : intsOf ds with
      | none => rw [q] at e; cases e
      | some js =>
        rw [q] at e
        have e2 : i :: js = is := Option.some.inj e
        subst e2
        have h1' : v = .int i := h1
        rw [h1', ints_of h2 q]
        rfl
    | _ => simp [intsOf] at e
theorem bools_of {K : Frag} {A : AS} {H : Hp} : ∀ {ds : List D} {vs : List V} {is : List Bool}, RepL K A H ds vs → boolsOf ds = some is → vs = is.map V.bl
  | [], vs, is, h, e => by
    simp only [RepL] at h
    simp only [boolsOf, Option.some.injEq] at e
    subst h e
    rfl
  | d :: ds, vs, is, h, e => by
    simp only [RepL] at h
    obtain ⟨v, r, rfl, h1, h2⟩ := h
    cases d with
    | bl i =>
      simp only [boolsOf] at e
      cases q : boolsOf ds with
      | none => rw [q] at e; cases e
      | some js =>
        rw [q] at e
        have e2 : i :: js = is := Option.some.inj e
        subst e2
        have h1' : v = .bl i := h1
        rw [h1', bools_of h2 q]
        rfl
    | _ => simp [boolsOf] at e
theorem v_all (hc : X.calm = true) : CallR X (.builtin "all") (c1 X.K ball) := cimp (cr_all hc) fun xs H Q ⟨x, e0, A, d1, d, h1, ha, e, k⟩ => by
  subst e0
  cases d1 with
  | lst xs =>
    simp only [ball] at e
    split at e
    · rename_i is hi
      simp only [Res.ok.injEq] at e
      subst e
      obtain ⟨a, vs, rfl, q, r⟩ := h1
      have e1 := bools_of r hi
      subst e1
      exact ⟨a, is, rfl, .inl q, k _ H (Same.refl H) (flat_rep rfl _ _)⟩
    · cases e
  | _ => simp [ball] at e
theorem n_all : NoEx1 ball := fun x c fs => by
  cases x <;> simp only [ball] <;> first | (split <;> rfl) | rfl
theorem v_min2 (hc : X.calm = true) : CallR X (.builtin "min") (c2 X.K bmin2) := cimp (call_min2 hc) fun xs H Q ⟨x, y, e0, A, d1, d2, d, h1, h2, ha, e, k⟩ => by
  subst e0
  cases d1 <;> cases d2 <;> simp only [bmin2, Res.ok.injEq, reduceCtorEq] at e
  subst e
  rename_i i j
  exact ⟨i, j, by rw [rep_int h1, rep_int h2], k _ H (Same.refl H) (flat_rep rfl _ _)⟩
theorem n_min2 : NoEx2 bmin2 := fun x y c fs => by cases x <;> cases y <;> rfl
end
end Py
/-! What is walked, targets, comprehensions. -/
namespace Py
open PySem L2
/-- J gives the data xs, one a turn, as long as the heap moves so -/
def Itm (M : AS → Hp → AS → Hp → Prop) (K : Frag) (A : AS) (J : It) (xs : List D) (H : Hp) : Prop := ∀ i A2 H2, M A H A2 H2 →
  (i < xs.length → J.go i H2 ∧ ∀ x H3, J.yld i H2 x H3 → Same H2 H3 ∧ ∃ d, xs[i]? = some d ∧ Rep K A2 H3 d x) ∧ (i = xs.length → J.stop i H2)
/-- .. as it only grows -/
def Gr (A : AS) (H : Hp) (A' : AS) (H' : Hp) : Prop := (∀ a, A' a → A a ∨ H a = none) ∧ Same H H'
theorem Gr.mv {A A' : AS} {H H' : Hp} (h : Gr A H A' H') : Mv A H A' H' := ⟨h.1, fun a o e _ => h.2 a o e⟩
abbrev MvT := AS → Hp → AS → Hp → Prop
theorem Itm.gr {K : Frag} {A : AS} {J : It} {xs : List D} {H : Hp} (h : Itm Mv K A J xs H) : Itm Gr K A J xs H := fun i A2 H2 m => h i A2 H2 m.mv
def tI (M : MvT) (K : Frag) (W : WX) (ow : Ow) (m : IM) : TI := fun σ H R => ∃ A H0 O e, ER K A H0 ow O σ H e ∧
  Out (m e) (fun xs => ∀ J H', Same H H' → Itm M K (AO A O) J xs H' → R J H') (badE K W A O σ H)
theorem PI.of {X : Cx} {tg iter : Expr} {t t' : TI} (h : PI X tg iter t) (k : ∀ σ H R, t' σ H R → t σ H R) : PI X tg iter t' := ⟨fun pins s σ H R I q => h.run pins s σ H R I (k σ H R q)⟩
section
variable {X : Cx} {W : WX} {A : AS} {H0 : Base} {ow : Ow} {tg a b c e : Expr} {es : List Expr} {m ma mb mc : EM} {am : AM} {pos p : Pos}
/-- a list or a tuple -/
theorem pi_either {l : Expr} {tl : TE} (hl : PE X l tl) : PI X tg l (fun σ H R => tl σ H fun x H1 => ∃ a, x = .ref a ∧ ((∃ xs, SqL X.K H1 a xs ∧ R (Itl X.K a) H1) ∨ ∃ xs, SqT X.K H1 a xs ∧ R (Itt X.K a) H1)) := by
  refine ⟨fun pins s σ H R I h => ?_⟩
  refine thn (hl.run pins s σ H _ I h) fun v s1 ⟨x, H1, I1, r1, q1⟩ => ?_
  obtain ⟨a, e, q⟩ := q1
  subst e
  cases r1
  have fin : ∀ b ∈ [s1.heap.objs.size], FpOk X pins H1 b := fun b hb => by
    have e : b = s1.heap.objs.size := by simpa using hb
    subst e
    exact I1.fpOk (Nat.le_refl _) (I1.hok.fresh (Nat.le_refl _))
  rcases q with ⟨xs, hq, q⟩ | ⟨xs, hq, q⟩
  · obtain ⟨its, rv, p, hz⟩ := I1.list hq
    refine wpAny_pyIter_list p.isList ?_
    exact ⟨s1.heap.objs.size, [s1.heap.objs.size], _, _, H1, rfl, I1.kept (t' := s1.toks) fun b o e => Heap.get?_push_of_some _ e, turn_list a _, ⟨_, Heap.get?_push_size _ rfl, rfl, rfl⟩, fin, q⟩
  · obtain ⟨its, rv, p, hz⟩ := I1.tuple hq
    refine wpAny_pyIter_tuple (show s1.heap.IsTuple a its.toArray from p) ?_
    exact ⟨s1.heap.objs.size, [s1.heap.objs.size], _, _, H1, rfl, I1.kept (t' := s1.toks) fun b o e => Heap.get?_push_of_some _ e, turn_tuple a _, ⟨_, Heap.get?_push_size _ rfl, rfl, rfl⟩, fin, q⟩
theorem itm_tup {K : Frag} {A : AS} {H : Hp} {a : Addr} {ds : List D} {vs : List V} (q : SqT K H a vs) (r : RepL K A H ds vs) : Itm Mv K A (Itt K a) ds H := fun i A2 H2 m => by
  have q2 := SqT.move m q
  have r2 := RepL.move m ds vs r
  refine ⟨fun hi => ?_, fun hi => ⟨vs, q2, by rw [← r.length]; exact Nat.le_of_eq hi.symm⟩⟩
  obtain ⟨v, hv, rv⟩ := r2.get (i := i) (List.getElem?_eq_getElem hi)
  refine ⟨⟨vs, v, q2, hv⟩, fun x H3 ⟨e, k⟩ => ?_⟩
  subst e
  have := k vs q2
  rw [hv] at this
  cases this
  exact ⟨Same.refl _, _, List.getElem?_eq_getElem hi, rv⟩
theorem itm_lst {M : MvT} {K : Frag} {A : AS} {H : Hp} {a : Addr} {ds : List D} {vs : List V} (hM : ∀ A2 H2, M A H A2 H2 → Mv A H A2 H2 ∧ Rd H2 a (.lst vs)) (r : RepL K A H ds vs) : Itm M K A (Itl K a) ds H := fun i A2 H2 m => by
  obtain ⟨mv, rd⟩ := hM A2 H2 m
  have q2 : SqL K H2 a vs := .inl rd
  have r2 := RepL.move mv ds vs r
  refine ⟨fun hi => ?_, fun hi => ⟨vs, q2, by rw [← r.length]; exact Nat.le_of_eq hi.symm⟩⟩
  obtain ⟨v, hv, rv⟩ := r2.get (i := i) (List.getElem?_eq_getElem hi)
  refine ⟨⟨vs, v, q2, hv⟩, fun x H3 ⟨e, k⟩ => ?_⟩
  subst e
  have := k vs q2
  rw [hv] at this
  cases this
  exact ⟨Same.refl _, _, List.getElem?_eq_getElem hi, rv⟩
/-- for a for: a clean list or tuple -/
theorem i_seq (ha : PE X a (tE X.K W ow ma)) : PI X tg a (tI Mv X.K W ow (iseq ma)) :=
  PI.of (pi_either ha) fun σ H R' ⟨A, H0, O, en, R, q⟩ => ⟨A, H0, O, en, R, (Out.bind q).good fun d q1 v H1 s1 r1 => by
    cases d with
    | lst xs =>
      obtain ⟨p, vs, rfl, n, h, r⟩ := (by simpa only [Rep] using r1 : ∃ a vs, v = .ref a ∧ ¬ AO A O a ∧ Rd H1 a (.lst vs) ∧ RepL X.K (AO A O) H1 xs vs)
      exact ⟨p, rfl, .inl ⟨vs, .inl h, q1 _ H1 s1 (itm_lst (fun A2 H2 m => ⟨m, (Rd.move m h n).1⟩) r)⟩⟩
    | tup xs =>
      obtain ⟨p, vs, rfl, h, r⟩ := (by simpa only [Rep] using r1 : ∃ a vs, v = .ref a ∧ SqT X.K H1 a vs ∧ RepL X.K (AO A O) H1 xs vs)
      exact ⟨p, rfl, .inr ⟨vs, h, q1 _ H1 s1 (itm_tup h r)⟩⟩
    | _ => exact q1.elim⟩
theorem i_gr {it : IM} (h : PI X tg a (tI Mv X.K W ow it)) : PI X tg a (tI Gr X.K W ow it) :=
  PI.of h fun σ H R' ⟨A, H0, O, en, R, q⟩ => ⟨A, H0, O, en, R, q.good fun xs k J H' s i => k J H' s i.gr⟩
theorem itm_range {K : Frag} {A : AS} {H : Hp} {lo hi : Int} : Itm Mv K A (Itr lo (hi - lo).toNat) (rngL lo hi) H := fun i A2 H2 m => by
  have hl : (rngL lo hi).length = (hi - lo).toNat := by unfold rngL; simp
  rw [hl]
  refine ⟨fun h => ⟨h, fun x H3 ⟨e1, e2⟩ => ?_⟩, fun h => Nat.le_of_eq h.symm⟩
  subst e1 e2
  refine ⟨Same.refl _, .int (lo + (i : Nat)), ?_, rfl⟩
  unfold rngL
  rw [List.getElem?_map, List.getElem?_range h]
  rfl
theorem nb62 {n : Int} (h : n.natAbs < B62) : -(2 : Int) ^ 62 ≤ n ∧ n < 2 ^ 62 := by
  have e : (2 : Int) ^ 62 = 4611686018427387904 := by decide
  rw [e]
  unfold B62 at h
  omega
theorem rng1_of {σ : L2.St} {H : Hp} {R' : It → Hp → Prop} (h : tI Mv X.K W ow (irng1 ma) σ H R') : iRng1 (tCons (tE X.K W ow ma) tNil) σ H R' := by
  obtain ⟨A, H0, O, en, R, q⟩ := h
  refine ⟨A, H0, O, en, R, (Out.bind q).good fun d q1 v H1 s1 r1 => ?_⟩
  cases d with
  | int n =>
    simp only at q1
    split at q1
    · rename_i z
      have r1' : v = .int n := r1
      subst r1'
      refine ⟨n, rfl, (nb62 z).1, (nb62 z).2, ?_⟩
      have k := q1 (Itr 0 (n - 0).toNat) H1 s1 itm_range
      have e : n - 0 = n := Int.sub_zero n
      rw [e] at k
      exact k
    · exact q1.elim
  | _ => exact q1.elim
theorem i_rng1 (hg : Gl X "range") (hm : X.mg "range" = none) (ha : PE X a (tE X.K W ow ma)) (hs : starEach [a] X.env = [(false, eval a X.env)] := by rfl) : PI X tg (.Call (.Name "range" p) [a] [] pos) (tI Mv X.K W ow (irng1 ma)) :=
  PI.of (pi_range1 hg hm (pa_cons ha pa_nil hs) hs) fun σ H R' h => rng1_of h
theorem i_rng2 (hg : Gl X "range") (hm : X.mg "range" = none) (ha : PE X a (tE X.K W ow ma)) (hb : PE X b (tE X.K W ow mb)) (hs : starEach [a, b] X.env = [(false, eval a X.env), (false, eval b X.env)] := by rfl) (hs2 : starEach [b] X.env = [(false, eval b X.env)] := by rfl) :
    PI X tg (.Call (.Name "range" p) [a, b] [] pos) (tI Mv X.K W ow (irng2 ma mb)) :=
  PI.of (pi_range2 hg hm (pa_cons ha (pa_cons hb pa_nil hs2) (by rw [hs, hs2])) hs hs2) fun σ H R' ⟨A, H0, O, en, R, q⟩ => ⟨A, H0, O, en, R, (Out.bind q).good fun d q1 v H1 s1 r1 => ⟨A, H0, O, en, R.to s1, ((Out.bind q1).to s1).good fun d2 q2 v2 H2 s2 r2 => by
    cases d with
    | int i =>
      cases d2 with
      | int n =>
        simp only at q2
        split at q2
        · rename_i z
          have r1' : v = .int i := r1
          have r2' : v2 = .int n := r2
          subst r1' r2'
          exact ⟨i, n, rfl, ⟨(nb62 z.1).1, (nb62 z.1).2, (nb62 z.2).1, (nb62 z.2).2⟩, q2 (Itr i (n - i).toNat) H2 (s1.trans s2) itm_range⟩
        · exact q2.elim
      | _ => exact q2.elim
    | _ => exact q2.elim⟩⟩
/-! ### targets -/
/-- a target: ts are the slots that it sets -/
def tGt (K : Frag) (ow : Ow) (ts : List Nat) (g : GM) : TG := fun v σ H Q => ∃ A H0 O e d e', ER K A H0 ow O σ H e ∧ Rep K (AO A O) H d v ∧ g d e = some e' ∧
  ∀ σ', ER K A H0 ow O σ' H e' → σ'.length = σ.length → (∀ j, j ∉ ts → σ'[j]? = σ[j]?) → Q σ' H
theorem PG.of {tg : Expr} {t t' : TG} (h : PG X tg t) (k : ∀ v σ H Q, t' v σ H Q → t v σ H Q) : PG X tg t' := ⟨fun pins s σ H v u Q I r q => h.run pins s σ H v u Q I r (k v σ H Q q)⟩
theorem g_nm {i : Nat} (h : PG X tg (gName i)) (hi : ow i = false) : PG X tg (tGt X.K ow [i] (gnm i)) :=
  PG.of h fun v σ H Q ⟨A, H0, O, en, d, e', R, r, g, q⟩ => by
    cases g
    exact q _ (R.set hi r) (by simp) fun j hj => by
      have : i ≠ j := fun z => hj (by simp [z])
      rw [List.getElem?_set_ne this]
def tGts (K : Frag) (ow : Ow) (ts : List Nat) (gs : List GM) : TGs := fun vs σ H Q => ∃ A H0 O e ds e', ER K A H0 ow O σ H e ∧ RepL K (AO A O) H ds vs ∧ gtupL gs ds e = some e' ∧
  ∀ σ', ER K A H0 ow O σ' H e' → σ'.length = σ.length → (∀ j, j ∉ ts → σ'[j]? = σ[j]?) → Q σ' H
theorem PGs.of {tg : List Expr} {t t' : TGs} (h : PGs X tg t) (k : ∀ v σ H Q, t' v σ H Q → t v σ H Q) : PGs X tg t' := ⟨fun pins s σ H v u Q I r q => h.run pins s σ H v u Q I r (k v σ H Q q)⟩
theorem gs_nil : PGs X [] (tGts X.K ow [] []) := PGs.of pgs_nil fun vs σ H Q ⟨A, H0, O, en, ds, e', R, r, g, q⟩ => by
  cases ds with
  | nil =>
    simp only [RepL] at r
    subst r
    cases g
    exact ⟨rfl, q σ R rfl fun _ _ => rfl⟩
  | cons d ds => cases g
theorem gs_cons {ts us : List Nat} {g : GM} {gs : List GM} (h1 : PG X e (tGt X.K ow ts g)) (h2 : PGs X es (tGts X.K ow us gs))
    (hs : (assignEach (e :: es) X.env).map (·.2) = assign e X.env :: (assignEach es X.env).map (·.2) := by rfl) : PGs X (e :: es) (tGts X.K ow (ts ++ us) (g :: gs)) :=
  PGs.of (pgs_cons h1 h2 hs) fun vs σ H Q ⟨A, H0, O, en, ds, e', R, r, ge, q⟩ => by
    cases ds with
    | nil => cases ge
    | cons d ds =>
      simp only [RepL] at r
      obtain ⟨v, r', rfl, r1, r2⟩ := r
      simp only [gtupL] at ge
      cases e1 : g d en with
      | none => rw [e1] at ge; cases ge
      | some en1 =>
        rw [e1] at ge
        refine ⟨v, r', rfl, A, H0, O, en, d, en1, R, r1, e1, fun σ1 R1 l1 k1 => ⟨A, H0, O, en1, ds, e', R1, r2, ge, fun σ2 R2 l2 k2 => q σ2 R2 (l2.trans l1) fun j hj => ?_⟩⟩
        rw [k2 j fun z => hj (by simp [z]), k1 j fun z => hj (by simp [z])]
theorem gtupL_len : ∀ {gs : List GM} {ds : List D} {e e' : Env}, gtupL gs ds e = some e' → ds.length = gs.length
  | [], [], _, _, _ => rfl
  | [], _ :: _, _, _, h => by cases h
  | _ :: _, [], _, _, h => by cases h
  | g :: gs, d :: ds, e, e', h => by
    simp only [gtupL] at h
    cases e1 : g d e with
    | none => rw [e1] at h; cases h
    | some e2 =>
      rw [e1] at h
      simp only [List.length_cons]
      rw [gtupL_len (show gtupL gs ds e2 = some e' from h)]
theorem g_tup {ts : List Nat} {gs : List GM} {n k : Nat} (hc : X.calm = true) (h : PGs X es (tGts X.K ow ts gs)) (hn : (assignEach es X.env).length = n := by rfl) (hl : gs.length = n := by rfl)
    (hst : (assignEach es X.env).findIdx? (·.1) = none := by rfl) : PG X (.Tuple es k pos) (tGt X.K ow ts (gtup gs)) :=
  PG.of (pg_tup hc h hn hst) fun v σ H Q ⟨A, H0, O, en, d, e', R, r, g, q⟩ => by
    cases d with
    | tup xs =>
      obtain ⟨a, vs, rfl, h, r⟩ := (by simpa only [Rep] using r : ∃ a vs, v = .ref a ∧ SqT X.K H a vs ∧ RepL X.K (AO A O) H xs vs)
      exact ⟨a, vs, rfl, h, by rw [← r.length, ← hl]; exact gtupL_len g, A, H0, O, en, xs, e', R, r, g, q⟩
    | _ => cases g
/-! ### comprehensions -/
abbrev W0 : WX := fun _ _ _ _ => False
theorem wipe_eq : ∀ {vs : List Nat} {σ σ' : L2.St}, σ'.length = σ.length → (∀ j, j ∉ vs → σ'[j]? = σ[j]?) → L2.wipe σ' vs = L2.wipe σ vs := fun {vs σ σ'} hl h => by
  apply List.ext_getElem?
  intro i
  by_cases hi : i ∈ vs
  · have key : ∀ (us : List Nat) (τ : L2.St), i ∈ us → (L2.wipe τ us)[i]? = if i < τ.length then some none else none := by
      intro us τ
      induction us with
      | nil => intro h; cases h
      | cons u us ih =>
        intro hm
        unfold L2.wipe
        by_cases hu : u = i
        · subst hu
          rw [List.getElem?_set]
          simp only [if_true, L2.wipe_length]
        · rw [List.getElem?_set_ne hu]
          exact ih (by
            rcases List.mem_cons.mp hm with z | z
            · exact absurd z.symm hu
            · exact z)
    rw [key vs σ' hi, key vs σ hi, hl]
  · rw [L2.wipe_out hi, L2.wipe_out hi]
    exact h i hi
theorem compL_drop {f : D → Res (Option D)} {xs : List D} {i : Nat} {G : List D → Prop} {F : String → List (String × D) → Prop} (hi : i < xs.length) (h : Out (compL f (xs.drop i)) G F) :
    Out (f xs[i]) (fun o => Out (compL f (xs.drop (i + 1))) (fun zs => G (match o with | some y => y :: zs | none => zs)) F) F := by
  rw [List.drop_eq_getElem_cons hi] at h
  simp only [compL] at h
  exact (Out.bind h).good fun o h2 => (Out.bind h2).good fun zs h3 => h3
theorem noexc_of {α β : Type} {r : Res α} {k : α → Res β} {good : β → Prop} {bad bad' : String → List (String × D) → Prop} (h : Out (noexc r >>= k) good bad) : Out r (fun a => Out (k a) good bad) bad' := (Out.bind h).noexc
theorem ER.more {K : Frag} {A A' : AS} {H0 : Base} {ow : Ow} {O : OW} {σ : L2.St} {H H' : Hp} {e : Env} (R : ER K A H0 ow O σ H e) (h0 : ∀ a, A' a → H' a ≠ none) (s : Same H H') (hA : ∀ a, A' a → A a ∨ H a = none) (hA2 : ∀ a, A a → A' a) : ER K A' H0 ow O σ H' e := by
  have mv : Mv (AO A O) H (AO A' O) H' := ⟨fun a ha => by
    rcases ha with ha | ha
    · rcases hA a ha with z | z
      · exact .inl (.inl z)
      · exact .inr z
    · exact .inl (.inr ha), fun a o e _ => s a o e⟩
  refine ⟨R.len, h0, R.same.trans s, fun i d h1 h2 => ?_, fun i d h1 h2 => ?_, fun i a h => ⟨(R.fresh i a h).1, ne_none s (R.fresh i a h).2.1, fun z => (hA a z).elim (R.fresh i a h).2.2 (R.fresh i a h).2.1⟩, R.inj, R.pin, R.exq.heap mv fun da fvs e => s _ _ e⟩
  · obtain ⟨v, q, r⟩ := R.vals i d h1 h2
    exact ⟨v, q, Rep.move mv _ _ r⟩
  · obtain ⟨a, q, q2, r⟩ := R.owns i d h1 h2
    refine ⟨a, q, q2, r.move mv ?_⟩
    cases z : H a with
    | none => exact absurd z (R.fresh i a q).2.1
    | some o => exact s a o z
/-- [elt for tg in iter if test]; vs: the block's own names, ts: those that the target sets -/
theorem lc_of {K : Frag} {it : IM} {vs ts : List Nat} {g : GM} {t : TM} {elt : EM} (hx : ow.x = none) (hts : ∀ j ∈ ts, j ∈ vs) {σ : L2.St} {H : Hp} {Q : VK} (h : tF K W ow (lcE it vs g t elt) σ H Q) :
    tLc (tI Gr K W ow it) (tGt K ow ts g) (tT K W0 ow t) (tE K W0 ow elt) vs σ H Q := by
  obtain ⟨A, H0, O, en, R, q⟩ := h
  refine ⟨A, H0, O, en, R, (Out.bind q).good fun xs q1 J H1 s1 itm D hD => ?_⟩
  have q0 := noexc_of (bad' := Nev) q1
  by_cases hsz : xs.length ≤ SZ
  case neg =>
    exact (Out.void (q0.good fun ys q2 => by
      unfold chk at q2
      rw [if_neg hsz] at q2
      exact q2)).elim
  have q2 := q0.good fun ys (q2 : Out (chk xs.length (.lst ys)) _ _) => (by
    unfold chk at q2
    rw [if_pos hsz] at q2
    exact fun a H' n s h => q2 a H' (s1.free n) (s1.trans s) h : ∀ (a : Addr) (H' : Hp), H1 a = none → Same H1 H' → OwnAt K (fun b => AO A O b ∨ b = a) H' a (.lst ys) → Q (.ref a) H')
  have hsl : SZ = sizeLine := rfl
  have R1 := R.to s1
  have hAD : ¬ AO A O D := fun z => R1.there D z hD
  generalize hA' : (fun b => A b ∨ b = D : AS) = A'
  have hA1 : ∀ b, AO A' O b → AO A O b ∨ b = D := fun b hb => by
    subst hA'
    rcases hb with (hb | hb) | hb
    · exact .inl (.inl hb)
    · exact .inr hb
    · exact .inl (.inr hb)
  have hA2 : ∀ b, AO A O b ∨ b = D → AO A' O b := fun b hb => by
    subst hA'
    rcases hb with (hb | hb) | hb
    · exact .inl (.inl hb)
    · exact .inr hb
    · exact .inl (.inr hb)
  refine ⟨fun i m H' => m = xs.length - i ∧ i ≤ xs.length ∧ ∃ acc vs', H' D = some (.lst vs') ∧ Same H1 H' ∧ acc.length ≤ i ∧ Out (compL (compF vs g t elt en) (xs.drop i)) (fun zs => ∀ (a : Addr) (H' : Hp), H1 a = none → Same H1 H' → OwnAt K (fun b => AO A O b ∨ b = a) H' a (.lst (acc ++ zs)) → Q (.ref a) H') Nev ∧ RepL K (AO A' O) H' acc vs', ⟨xs.length, by simp, Nat.zero_le _, [], [], upd_same, new_same hD, Nat.le_refl _, q2, by simp [RepL]⟩, ?_⟩
  rintro i m H' ⟨rfl, hi, acc, vs', hH', s2, hal, hz, hr2⟩
  have im := itm i (AO A' O) H' ⟨fun b hb => (hA1 b hb).elim .inl fun z => by rw [z]; exact .inr hD, s2⟩
  by_cases hlt : i < xs.length
  · right
    obtain ⟨hgo, hy⟩ := im.1 hlt
    have hf := compL_drop hlt hz
    refine ⟨hgo, fun H'' => ∃ acc vs', H'' D = some (.lst vs') ∧ Same H1 H'' ∧ acc.length ≤ i + 1 ∧ Out (compL (compF vs g t elt en) (xs.drop (i + 1))) (fun zs => ∀ (a : Addr) (H' : Hp), H1 a = none → Same H1 H' → OwnAt K (fun b => AO A O b ∨ b = a) H' a (.lst (acc ++ zs)) → Q (.ref a) H') Nev ∧ RepL K (AO A' O) H'' acc vs', fun H'' ⟨a1, a2, h1, h2, h3, h4, h6⟩ => ⟨xs.length - (i + 1), by omega, rfl, by omega, a1, a2, h1, h2, h3, h4, h6⟩, fun x H3 y => ?_⟩
    obtain ⟨s3, d, hd, rd⟩ := hy x H3 y
    have hd' : d = xs[i] := by
      rw [List.getElem?_eq_getElem hlt] at hd
      exact (Option.some.inj hd).symm
    subst hd'
    unfold compF at hf
    cases hg : g xs[i] (wipe en vs) with
    | none => rw [hg] at hf; exact hf.elim
    | some e1 =>
      rw [hg, lift_some, bind_ok] at hf
      have s13 := s2.trans s3
      have hD3 : H3 D ≠ none := by
        rw [s3 _ _ hH']
        exact fun z => nomatch z
      have R3 : ER K A' H0 ow O (L2.wipe σ vs) H3 (wipe en vs) := ((R1.more (A' := A') (H' := H3) (fun b hb => by
        rcases hA1 b (.inl hb) with z | z
        · exact (R1.to s13).there b z
        · rw [z]
          exact hD3) s13 (fun b hb => by
        subst hA'
        rcases hb with hb | hb
        · exact .inl hb
        · rw [hb]
          exact .inr hD) (fun b hb => by
        subst hA'
        exact .inl hb))).wipe vs hx
      refine ⟨A', H0, O, wipe en vs, xs[i], e1, R3, rd, hg, fun σ1 Rσ l1 k1 => ⟨?_, ?_⟩⟩
      · have w1 := wipe_eq (vs := vs) (σ := L2.wipe σ vs) (σ' := σ1) l1 fun j hj => k1 j fun z => hj (hts j z)
        rw [w1]
        exact wipe_eq (L2.wipe_length _ _) fun j hj => L2.wipe_out hj
      · refine ⟨A', H0, O, e1, Rσ, (Out.bind hf).imp (fun bb _ hf => ?_) fun _ _ z => z.elim⟩
        intro H4 s4
        cases bb with
        | false =>
            rw [if_neg (by decide)] at hf ⊢
            have s5 : Same H' H4 := s3.trans s4
            exact ⟨acc, vs', s5 _ _ hH', s2.trans s5, by omega, hf, RepL.move (Mv.same s5) _ _ hr2⟩
        | true =>
              rw [if_pos rfl] at hf ⊢
              refine ⟨A', H0, O, e1, Rσ.to s4, (Out.bind hf).imp (fun y' _ hf => ?_) fun _ _ z => z.elim⟩
              intro v5 H5 s5 r5
              have s6 : Same H' H5 := (s3.trans s4).trans s5
              have a1 := s6 _ _ hH'
              have hmv : Mv (AO A' O) H5 (AO A' O) (upd H5 D (.lst (vs' ++ [v5]))) := ⟨fun b hb => .inl hb, fun b o' e1 hb => by
                rw [upd_ne]
                · exact e1
                · intro z
                  subst z
                  rcases hb with hb | hb
                  · exact hb (hA2 _ (.inr rfl))
                  · rw [a1] at e1
                    cases e1
                    exact hb⟩
              have rall := (RepL.move (Mv.same s6) _ _ hr2).append (RepL.one r5)
              have hlen := hr2.length
              refine ⟨vs', a1, by omega, acc ++ [y'], vs' ++ [v5], upd_same, fun b o' e1 => ?_, by simp; omega, Out.good (show Out (compL _ _) _ _ from hf) fun zs h => by rw [List.append_assoc]; exact h, RepL.move hmv _ _ rall⟩
              rw [upd_ne (ne_of_none e1 hD)]
              exact s6 _ _ (s2 _ _ e1)
  · left
    refine ⟨im.2 (by omega), ?_⟩
    have hi2 : i = xs.length := by omega
    subst hi2
    rw [List.drop_length] at hz
    have hz : ∀ (a : Addr) (H' : Hp), H1 a = none → Same H1 H' → OwnAt K (fun b => AO A O b ∨ b = a) H' a (.lst (acc ++ [])) → Q (.ref a) H' := hz
    rw [List.append_nil] at hz
    exact hz D H' hD s2 ⟨vs', hH', RepL.move (Mv.less fun b hb => hA2 b hb) _ _ hr2⟩
end
end Py
/-! Statements. -/
namespace Py
open PySem L2
section
variable {K : Frag} {A : AS} {H0 : Base} {ow : Ow} {O : OW} {σ : L2.St} {H H' : Hp} {e : Env}
/-- every name gives up what it owns -/
theorem ER.freeze (R : ER K A H0 ow O σ H e) : ER K A ⟨H0.hp, none⟩ ow.off (fun _ => none) σ H e := by
  have mv : Mv (AO A O) H (AO A fun _ => none) H := Mv.less fun b hb => hb.elim .inl fun ⟨_, z⟩ => nomatch z
  refine ⟨R.len, R.a0, R.same, fun i d h1 _ => ?_, fun i d h1 h2 => ?_, fun i a h => (nomatch h), fun i j a h => (nomatch h), fun a h => (nomatch h), fun q hq => ?_⟩
  rotate_right
  · obtain ⟨h1, h2, h3, fvs, h4, h5⟩ := R.exq q hq
    refine ⟨?_, h2, h3, fvs, h4, RepF.move mv _ _ h5⟩
    have hq2 : ow.x = some q := hq
    simp only [Ow.off, hq2, beq_self_eq_true]
  rotate_right
  · simp only [Ow.off] at h2
    cases hq : ow.x with
    | none =>
      rw [hq] at h2
      cases h2
    | some q =>
      rw [hq] at h2
      have hi : i = q.i := by simpa using h2
      subst hi
      exact absurd h1 ((R.exq q hq).no d)
  cases hi : ow i with
  | false =>
    obtain ⟨v, q, r⟩ := R.vals i d h1 hi
    exact ⟨v, q, Rep.move mv _ _ r⟩
  | true =>
    obtain ⟨a, q, q2, r⟩ := R.owns i d h1 hi
    refine ⟨.ref a, q2, ?_⟩
    have na : ¬ AO A (fun _ => none) a := fun z => z.elim (R.fresh i a q).2.2 fun ⟨_, w⟩ => nomatch w
    exact r.rep mv na
/-- a name's own object changes -/
theorem ER.write (R : ER K A H0 ow O σ H e) {i : Nat} {a : Addr} {o : HO} {d d' : D} (hi : ow i = true) (he : e[i]? = some (some d)) (ha : O i = some a) (h : OwnAt K (AO A O) (upd H a o) a d') : ER K A H0 ow O σ (upd H a o) (e.set i (some d')) := by
  obtain ⟨a1, q1, q2, r⟩ := R.owns i d he hi
  rw [ha] at q1
  cases q1
  obtain ⟨u0, hu0, hs0, hx0⟩ := r.obj
  have hst : ∀ u, H a = some u → ¬ still u := fun u hu => by
    rw [hu0] at hu
    cases hu
    exact hs0
  have mv : Mv (AO A O) H (AO A O) (upd H a o) := ⟨fun b hb => .inl hb, fun b u e1 hb => by
    rw [upd_ne]
    · exact e1
    · intro z
      subst z
      rcases hb with hb | hb
      · exact hb (.inr ⟨i, ha⟩)
      · exact hst u e1 hb⟩
  have hne : ∀ {H1 : Hp} {b : Addr}, H1 b ≠ none → (upd H1 a o) b ≠ none := fun {H1 b} h => by
    unfold upd
    split
    · exact fun z => nomatch z
    · exact h
  refine ⟨by simp [R.len], fun b hb => hne (R.a0 b hb), fun b u e1 => ?_, fun j dj h1 h2 => ?_, fun j dj h1 h2 => ?_, fun j b hb => ⟨(R.fresh j b hb).1, hne (R.fresh j b hb).2.1, (R.fresh j b hb).2.2⟩, R.inj, R.pin, R.exq.move mv (fun da fvs e1 => (upd_ne fun z => by
    subst z
    rw [hu0] at e1
    exact hx0 _ (Option.some.inj e1)).trans e1) fun j _ n => ⟨rfl, fun dj => by
      have hij : i ≠ j := fun z => by
        subst z
        exact n _ he
      rw [List.getElem?_set_ne hij]
      exact n dj⟩⟩
  · rw [upd_ne]
    · exact R.same b u e1
    · intro z
      rw [z, (R.fresh i a ha).1] at e1
      cases e1
  · have hj : i ≠ j := fun z => by
      subst z
      rw [hi] at h2
      cases h2
    rw [List.getElem?_set_ne hj] at h1
    obtain ⟨v, q, r⟩ := R.vals j dj h1 h2
    exact ⟨v, q, Rep.move mv _ _ r⟩
  · by_cases hj : i = j
    · subst hj
      have hl := (List.getElem?_eq_some_iff.mp he).1
      rw [List.getElem?_set_self hl] at h1
      cases h1
      exact ⟨a, ha, q2, h⟩
    · rw [List.getElem?_set_ne hj] at h1
      obtain ⟨b, p1, p2, p3⟩ := R.owns j dj h1 h2
      have hba : b ≠ a := fun z => by
        subst z
        exact hj (R.inj i j b ha p1)
      exact ⟨b, p1, p2, p3.move mv (upd_ne hba)⟩
/-- a name gets an object of its own -/
theorem ER.take (R : ER K A H0 ow O σ H e) {i : Nat} {a : Addr} {d : D} (s : Same H H') (hxi : ∀ q, ow.x = some q → q.i ≠ i) (hi : ow i = true) (h0 : 0 < i) (hn : H a = none) (h : OwnAt K (fun b => AO A O b ∨ b = a) H' a d) :
    ER K A H0 ow (fun j => if j = i then some a else O j) (σ.set i (some (.ref a))) H' (e.set i (some d)) ∧ Mv (AO A O) H (AO A fun j => if j = i then some a else O j) H' := by
  have sub : ∀ b, AO A (fun j => if j = i then some a else O j) b → AO A O b ∨ b = a := fun b hb => by
    rcases hb with hb | ⟨j, hb⟩
    · exact .inl (.inl hb)
    · by_cases hj : j = i
      · simp only [hj, if_true, Option.some.injEq] at hb
        exact .inr hb.symm
      · simp only [hj, if_false] at hb
        exact .inl (.inr ⟨j, hb⟩)
  have mv : Mv (AO A O) H (AO A fun j => if j = i then some a else O j) H' := ⟨fun b hb => (sub b hb).elim .inl fun z => by rw [z]; exact .inr hn, fun b o e1 _ => s b o e1⟩
  have mv2 : Mv (fun b => AO A O b ∨ b = a) H' (AO A fun j => if j = i then some a else O j) H' := Mv.less sub
  have ha : H' a ≠ none := by
    obtain ⟨u, hu, _, _⟩ := h.obj
    rw [hu]
    exact fun z => nomatch z
  refine ⟨⟨by simp [R.len], fun b hb => ne_none s (R.a0 b hb), R.same.trans s, fun j dj h1 h2 => ?_, fun j dj h1 h2 => ?_, fun j b hb => ?_, fun j k b hj hk => ?_, fun b hb => ?_, fun q hq => ?_⟩, mv⟩
  rotate_right
  · obtain ⟨z1, z2, z3, fvs, z4, z5⟩ := R.exq q hq
    have hne : i ≠ q.i := fun z => hxi q hq z.symm
    refine ⟨z1, ?_, ?_, fvs, s _ _ z4, RepF.move mv _ _ z5⟩ <;> rw [List.getElem?_set_ne hne]
    · exact z2
    · exact z3
  · have hj : i ≠ j := fun z => by
      subst z
      rw [hi] at h2
      cases h2
    rw [List.getElem?_set_ne hj] at h1
    obtain ⟨v, q, r⟩ := R.vals j dj h1 h2
    exact ⟨v, by rw [List.getElem?_set_ne hj]; exact q, Rep.move mv _ _ r⟩
  · by_cases hj : i = j
    · subst hj
      have hl : i < e.length := by
        have := (List.getElem?_eq_some_iff.mp h1).1
        simpa using this
      rw [List.getElem?_set_self hl] at h1
      cases h1
      exact ⟨a, by simp, List.getElem?_set_self (by rw [R.len]; exact hl), h.move mv2 rfl⟩
    · rw [List.getElem?_set_ne hj] at h1
      obtain ⟨b, p1, p2, p3⟩ := R.owns j dj h1 h2
      have hj' : ¬ j = i := fun z => hj z.symm
      refine ⟨b, by simp only [hj', if_false]; exact p1, by rw [List.getElem?_set_ne hj]; exact p2, p3.move mv ?_⟩
      cases z : H b with
      | none => exact absurd z (R.fresh j b p1).2.1
      | some o => exact s b o z
  · by_cases hj : j = i
    · simp only [hj, if_true, Option.some.injEq] at hb
      subst hb
      refine ⟨?_, ha, fun z => R.a0 a z hn⟩
      cases z : H0.hp a with
      | none => rfl
      | some o =>
        rw [R.same a o z] at hn
        cases hn
    · simp only [hj, if_false] at hb
      exact ⟨(R.fresh j b hb).1, ne_none s (R.fresh j b hb).2.1, (R.fresh j b hb).2.2⟩
  · have old : ∀ l b, O l = some b → b ≠ a := fun l b hl z => by
      rw [z] at hl
      exact (R.fresh l a hl).2.1 hn
    by_cases h1 : j = i
    · by_cases h2 : k = i
      · rw [h1, h2]
      · simp only [h1, if_true, Option.some.injEq] at hj
        simp only [h2, if_false] at hk
        exact absurd hj.symm (old k b hk)
    · by_cases h2 : k = i
      · simp only [h2, if_true, Option.some.injEq] at hk
        simp only [h1, if_false] at hj
        exact absurd hk.symm (old j b hj)
      · simp only [h1, if_false] at hj
        simp only [h2, if_false] at hk
        exact R.inj j k b hj hk
  · have h1 : ¬ 0 = i := fun z => by omega
    simp only [h1, if_false]
    exact R.pin b hb
end
/-- what is given back; fr: an object that is new and its caller's own -/
inductive Rm where
  | val | own | lent | two
def RetOk (fr : Rm) (K : Frag) (A : AS) (H0 : Base) (H' : Hp) (d : D) (v : V) : Prop := match fr with
  | .val => Rep K A H' d v
  | .own => ∃ a, v = .ref a ∧ H0.hp a = none ∧ OwnAt K (fun b => A b ∨ b = a) H' a d
  | .lent => ∃ r l, d = .tup [r, l] ∧ Rep K A H' r v ∧ ∀ a, H0.px = some a → OwnAt K A H' a l
  | .two => ∃ a b c x y, v = .ref a ∧ d = .tup [x, y] ∧ SqT K H' a [.ref b, .ref c] ∧ b ≠ c ∧ H0.hp b = none ∧ H0.hp c = none ∧ OwnAt K (fun z => (A z ∨ z = b) ∨ z = c) H' b x ∧ OwnAt K (fun z => (A z ∨ z = b) ∨ z = c) H' c y
/-- what must hold behind a statement; oN: who owns behind it, oB: who owns at a break, a continue -/
def EndOk3 (fr : Rm) (K : Frag) (A : AS) (H0 : Base) (oN oB : Ow) (O : OW) (H : Hp) (D : Ends) : Fl → Prop
  | .next e' => ∀ O' σ' H', ER K A H0 oN O' σ' H' e' → Mv (AO A O) H (AO A O') H' → D.nx σ' H'
  | .ret d => ∀ v H', Same H0.hp H' → RetOk fr K A H0 H' d v → D.rt v H'
  | .brk e' => ∀ O' σ' H', ER K A H0 oB O' σ' H' e' → Mv (AO A O) H (AO A O') H' → D.bk σ' H'
  | .cnt e' => ∀ O' σ' H', ER K A H0 oB O' σ' H' e' → Mv (AO A O) H (AO A O') H' → D.ct σ' H'
abbrev EndOk (fr : Rm) (K : Frag) (A : AS) (H0 : Base) (ow : Ow) (O : OW) (H : Hp) (D : Ends) : Fl → Prop := EndOk3 fr K A H0 ow ow O H D
theorem EndOk3.to {fr : Rm} {K : Frag} {A : AS} {H0 : Base} {oN oB : Ow} {O O1 : OW} {H H1 : Hp} {D : Ends} (m : Mv (AO A O) H (AO A O1) H1) : ∀ {f : Fl}, EndOk3 fr K A H0 oN oB O H D f → EndOk3 fr K A H0 oN oB O1 H1 D f
  | .next _, h => fun O' σ' H' R n => h O' σ' H' R (m.trans n)
  | .ret _, h => h
  | .brk _, h => fun O' σ' H' R n => h O' σ' H' R (m.trans n)
  | .cnt _, h => fun O' σ' H' R n => h O' σ' H' R (m.trans n)
def badS (K : Frag) (W : WX) (A : AS) (H0 : Base) (c : String) (fs : List (String × D)) : Prop :=
  ∀ σ' da H' fvs, Same H0.hp H' → H' da = some (.xd fvs) → RepF K A H' fs fvs → W (.ref (ca K c)) (some da) σ' H'
theorem badS.e {K : Frag} {W : WX} {A : AS} {H0 : Base} {ow : Ow} {O : OW} {σ : L2.St} {H : Hp} {e : Env} (R : ER K A H0 ow O σ H e) {c : String} {fs : List (String × D)} (h : badS K W A H0 c fs) : badE K W A O σ H c fs := fun da H' fvs s q r =>
  h σ da H' fvs (R.same.trans s) q (RepF.move (Mv.less fun b => .inl) _ _ r)
def tS3 (fr : Rm) (K : Frag) (W : WX) (ow oN oB : Ow) (m : SM) : TS := fun D σ H => ∃ A H0 O e, ER K A H0 ow O σ H e ∧ Out (m e) (EndOk3 fr K A H0 oN oB O H D) (badS K W A H0)
abbrev tS (fr : Rm) (K : Frag) (W : WX) (ow : Ow) (m : SM) : TS := tS3 fr K W ow ow ow m
section
variable {fr : Rm} {X : Cx} {W : WX} {ow : Ow} {a b c e : Expr} {es : List Expr} {m ma mb mc : EM} {st : Stmt} {rest body orelse : List Stmt} {u v : SM} {t : TM} {pos : Pos}
theorem Out.se {α : Type} {K : Frag} {W : WX} {A : AS} {H0 : Base} {ow : Ow} {O : OW} {σ : L2.St} {H : Hp} {e : Env} (R : ER K A H0 ow O σ H e) {r : Res α} {good : α → Prop} (h : Out r good (badS K W A H0)) : Out r good (badE K W A O σ H) := h.imp (fun _ _ x => x) fun _ _ x => x.e R
/-! ### blocks -/
theorem ss_nil : PSs X [] (tS fr X.K W ow skip) := PSs.of pss_nil fun D σ H ⟨A, H0, O, en, R, q⟩ => q O σ H R Mv.refl
theorem ss_one (h : PS X st (tS fr X.K W ow u)) : PSs X [st] (tS fr X.K W ow u) := pss_one h
theorem ss_cons (h : PS X st (tS fr X.K W ow u)) (k : PSs X rest (tS fr X.K W ow v)) : PSs X (st :: rest) (tS fr X.K W ow (seq u v)) :=
  PSs.of (pss_cons h k) fun D σ H ⟨A, H0, O, en, R, q⟩ => ⟨A, H0, O, en, R, (Out.bind q).good fun f q1 => by
    cases f with
    | next e' => exact fun O' σ' H' R' mv => ⟨A, H0, O', e', R', q1.good fun f q2 => q2.to mv⟩
    | ret d => exact q1
    | brk e' => exact q1
    | cnt e' => exact q1⟩
/-! ### assignments -/
theorem s_set {i : Nat} (h : PS X st (tAsg (tE X.K W ow m) (gName i))) (hi : ow i = false) : PS X st (tS fr X.K W ow (asg (gnm i) m)) :=
  PS.of h fun D σ H ⟨A, H0, O, en, R, q⟩ => ⟨A, H0, O, en, R, ((Out.bind q).se R).good fun d q1 v H1 s1 r1 => q1 O _ H1 ((R.to s1).set hi r1) (Mv.same s1)⟩
theorem s_gen {ts : List Nat} {g : GM} (h : PS X st (tAsg (tE X.K W ow m) (tGt X.K ow ts g))) : PS X st (tS fr X.K W ow (asg g m)) :=
  PS.of h fun D σ H ⟨A, H0, O, en, R, q⟩ => ⟨A, H0, O, en, R, ((Out.bind q).se R).good fun d q1 v H1 s1 r1 => by
    cases hg : g d en with
    | none =>
      rw [hg] at q1
      exact q1.elim
    | some e' =>
      rw [hg] at q1
      exact ⟨A, H0, O, en, d, e', R.to s1, r1, hg, fun σ' R' _ _ => q1 O σ' H1 R' (Mv.same s1)⟩⟩
/-- x += e and its like, x a clean name -/
theorem s_aug {i : Nat} {f : D → D → Res D} {te : TE} {tp : TIp} (h : PS X st (tAug i te tp)) (hte : te = tW X.K W ow m) (hp : ∀ x y H Q, r2 X.K f x y H Q → tp x y H Q) (hf : NoEx2 f) (hi : ow i = false) : PS X st (tS fr X.K W ow (aug i f m)) := by
  subst hte
  refine PS.of h fun D σ H ⟨A, H0, O, en, R, q⟩ => ?_
  have q0 := Out.bind q
  unfold var at q0
  split at q0
  · rename_i d0 hd0
    obtain ⟨v0, e0, r0⟩ := R.vals i d0 hd0 hi
    refine ⟨v0, e0, A, H0, O, en, R, ((Out.bind q0).se R).good fun d1 q1 v1 H1 s1 r1 => hp _ _ _ _ ?_⟩
    have R1 := R.to s1
    cases e : f d0 d1 with
    | exc _ _ => exact (hf.exc e).elim
    | pick _ _ => exact (hf.pick e).elim
    | stuck =>
      rw [e] at q1
      exact q1.elim
    | ok d =>
      rw [e] at q1
      exact ⟨_, d0, d1, d, RepW.of (Rep.move (Mv.same s1) _ _ r0), r1, R1.there, e, fun v2 H2 s2 r2 => q1 O _ H2 ((R1.to s2).set hi r2) (Mv.same (s1.trans s2))⟩
  · exact q0.elim
theorem s_ret (h : PE X a (tE X.K W ow.off m)) : PS X (.Return (some a) pos) (tS .val X.K W ow (ret m)) :=
  PS.of (ps_ret h) fun D σ H ⟨A, H0, O, en, R, q⟩ => ⟨A, _, _, en, R.freeze, ((Out.bind (show Out (ret m en) _ (badS X.K W A ⟨H0.hp, none⟩) from q)).se R.freeze).good fun d q1 v H1 s1 r1 =>
    q1 v H1 (R.same.trans s1) (Rep.move (Mv.less fun b => .inl) _ _ r1)⟩
theorem s_if (hc : PT X a (tT X.K W ow t)) (hb : PSs X body (tS fr X.K W ow u)) (ho : PSs X orelse (tS fr X.K W ow v)) : PS X (.If a body orelse pos) (tS fr X.K W ow (ite t u v)) :=
  PS.of (ps_if hc hb ho) fun D σ H ⟨A, H0, O, en, R, q⟩ => ⟨A, H0, O, en, R, ((Out.bind q).se R).good fun k q1 H1 s1 => by
    cases k with
    | true =>
      rw [if_pos rfl] at q1 ⊢
      exact ⟨A, H0, O, en, R.to s1, q1.good fun f q2 => q2.to (Mv.same s1)⟩
    | false =>
      rw [if_neg (by decide)] at q1 ⊢
      exact ⟨A, H0, O, en, R.to s1, q1.good fun f q2 => q2.to (Mv.same s1)⟩⟩
/-! ### loops -/
theorem for_of {it : IM} {ts : List Nat} {g : GM} {D : Ends} {σ : L2.St} {H : Hp} (h : tS fr X.K W ow (for_ it g u) D σ H) : tFor (tI Mv X.K W ow it) (tGt X.K ow ts g) (tS fr X.K W ow u) D σ H := by
  obtain ⟨A, H0, O, en, R, q⟩ := h
  exact ⟨A, H0, O, en, R, ((Out.bind q).se R).good fun xs q1 J H1 s1 itm => by
    refine ⟨fun i m σ' H' => m = xs.length - i ∧ i ≤ xs.length ∧ ∃ O' e', ER X.K A H0 ow O' σ' H' e' ∧ Mv (AO A O) H1 (AO A O') H' ∧ Out (forL (forB g u) (xs.drop i) e') (EndOk fr X.K A H0 ow O H1 D) (badS X.K W A H0),
      ⟨xs.length, by simp, Nat.zero_le _, O, en, R.to s1, Mv.refl, q1.good fun f q2 => q2.to (Mv.same s1)⟩, ?_⟩
    rintro i m σ' H' ⟨rfl, hi, O', e', R', mv, q2⟩
    have im := itm i (AO A O') H' mv
    by_cases hlt : i < xs.length
    · right
      obtain ⟨hgo, hy⟩ := im.1 hlt
      refine ⟨hgo, fun σ' H' => ∃ O' e', ER X.K A H0 ow O' σ' H' e' ∧ Mv (AO A O) H1 (AO A O') H' ∧ Out (forL (forB g u) (xs.drop (i + 1)) e') (EndOk fr X.K A H0 ow O H1 D) (badS X.K W A H0), fun σ2 H2 ⟨a1, a2, a3⟩ => ⟨xs.length - (i + 1), by omega, rfl, by omega, a1, a2, a3⟩, fun x H3 y => ?_⟩
      obtain ⟨s3, d, hd, rd⟩ := hy x H3 y
      have hd' : d = xs[i] := by
        rw [List.getElem?_eq_getElem hlt] at hd
        exact (Option.some.inj hd).symm
      subst hd'
      rw [List.drop_eq_getElem_cons hlt] at q2
      simp only [forL, forB] at q2
      cases hg' : g xs[i] e' with
      | none =>
        rw [hg'] at q2
        exact q2.elim
      | some e2 =>
        rw [hg', lift_some, bind_ok] at q2
        have mv3 : Mv (AO A O) H1 (AO A O') H3 := mv.trans (Mv.same s3)
        refine ⟨A, H0, O', e', xs[i], e2, R'.to s3, rd, hg', fun σ2 R2 _ _ => ⟨A, H0, O', e2, R2, (Out.bind q2).good fun f q2 => ?_⟩⟩
        · cases f with
          | next e3 => exact fun O3 σ3 H4 R3 m3 => ⟨O3, e3, R3, mv3.trans m3, q2⟩
          | cnt e3 => exact fun O3 σ3 H4 R3 m3 => ⟨O3, e3, R3, mv3.trans m3, q2⟩
          | brk e3 =>
            have q3 : EndOk fr X.K A H0 ow O H1 D (.next e3) := q2
            exact fun O3 σ3 H4 R3 m3 => q3 O3 σ3 H4 R3 (mv3.trans m3)
          | ret d => exact q2
    · left
      have hi2 : i = xs.length := by omega
      subst hi2
      rw [List.drop_length] at q2
      have q3 : EndOk fr X.K A H0 ow O H1 D (.next e') := q2
      exact ⟨im.2 rfl, q3 O' σ' H' R' mv⟩⟩
theorem s_for {tg iter : Expr} {it : IM} {ts : List Nat} {g : GM} (hp : PassesOwn (model X.prog X.w) X.A X.env X.xe) (hc : X.calm = true) (hi : PI X tg iter (tI Mv X.K W ow it)) (hg : PG X tg (tGt X.K ow ts g)) (hb : PSs X body (tS fr X.K W ow u))
    (hs : ∀ x, foldedSetIterable iter X.env x = pure x := by intro _; rfl) : PS X (.For tg iter body [] pos) (tS fr X.K W ow (for_ it g u)) :=
  PS.of (ps_for hp hc hi hg hb hs) fun D σ H h => for_of h
/-! ### a name's own list, object -/
theorem var_ok {α : Type} {i : Nat} {en : Env} {k : D → Res α} {good : α → Prop} {bad : String → List (String × D) → Prop} (h : Out (var i en >>= k) good bad) : ∃ d, en[i]? = some (some d) ∧ Out (k d) good bad := by
  unfold var at h
  split at h
  · rename_i d hd
    exact ⟨d, hd, h⟩
  · exact h.elim
theorem sqL {K : Frag} {H : Hp} {a : Addr} {vs : List V} (h : H a = some (.lst vs)) : L2.tyV K "list" (.ref a) H := .inl ⟨rfl, vs, .inl (.inl h)⟩
theorem own_mv {K : Frag} {A : AS} {H0 : Base} {ow : Ow} {O : OW} {σ : L2.St} {H : Hp} {en : Env} (R : ER K A H0 ow O σ H en) {i : Nat} {a : Addr} (p1 : O i = some a) {u o : HO} (e : H a = some u) (hs : ¬ still u) : Mv (AO A O) H (AO A O) (upd H a o) :=
  ⟨fun b hb => .inl hb, fun b o e3 hb => by
    rw [upd_ne]
    · exact e3
    · intro z
      subst z
      rcases hb with hb | hb
      · exact hb (.inr ⟨i, p1⟩)
      · rw [e] at e3
        cases e3
        exact hs hb⟩
/-- x.append(e) -/
theorem s_app {i : Nat} (h : PS X st (tDrop (tBM X.K "list" rAppend (tVar i) (tCons (tE X.K W ow m) tNil)))) (hi : ow i = true) : PS X st (tS fr X.K W ow (app i m)) :=
  PS.of h fun D σ H ⟨A, H0, O, en, R, q⟩ => by
    obtain ⟨l, hl, q1⟩ := var_ok q
    obtain ⟨a, p1, p2, p3⟩ := R.owns i l hl hi
    cases l with
    | lst ds =>
      obtain ⟨vs, e1, r1⟩ := p3
      refine ⟨.ref a, p2, sqL e1, A, H0, O, en, R, ((Out.bind q1).se R).good fun d q2 v H1 s1 r2 => ?_⟩
      split at q2
      · rename_i hz
        have e2 := s1 _ _ e1
        refine ⟨a, vs, v, rfl, rfl, e2, by rw [← r1.length]; exact hz, ?_⟩
        have R1 := R.to s1
        have mv := own_mv R1 p1 (o := .lst (vs ++ [v])) e2 fun z => z
        have R2 := R1.write (o := .lst (vs ++ [v])) (d' := .lst (ds ++ [d])) hi hl p1 ⟨_, upd_same, RepL.move mv _ _ ((RepL.move (Mv.same s1) _ _ r1).append (RepL.one r2))⟩
        exact q2 O σ _ R2 ((Mv.same s1).trans mv)
      · exact q2.elim
    | _ => exact q1.elim
/-- x[j] = e -/
theorem s_setL {i : Nat} {mj : EM} (h : PS X st (tAsg (tE X.K W ow m) (gSub (tVar i) (tE X.K W ow mj) (rSetX X.K)))) (hi : ow i = true) : PS X st (tS fr X.K W ow (setL i mj m)) :=
  PS.of h fun D σ H ⟨A, H0, O, en, R, q⟩ => by
    obtain ⟨l, hl, q1⟩ := var_ok q
    obtain ⟨a, p1, p2, p3⟩ := R.owns i l hl hi
    cases l with
    | lst ds =>
      obtain ⟨vs, e1, r1⟩ := p3
      refine ⟨A, H0, O, en, R, ((Out.bind q1).se R).good fun d q2 v H1 s1 r2 => ⟨.ref a, p2, A, H0, O, en, R.to s1, ((Out.bind q2).se (R.to s1)).good fun k q3 w H2 s2 r3 => ?_⟩⟩
      cases k with
      | int z =>
        simp only at q3
        split at q3
        · rename_i n hn
          have s12 := s1.trans s2
          have e2 := s12 _ _ e1
          have r3' : w = .int z := r3
          subst r3'
          refine .inl ⟨a, vs, z, n, rfl, rfl, e2, by rw [← r1.length]; exact hn, ?_⟩
          have R2 := R.to s12
          have mv := own_mv R2 p1 (o := .lst (vs.set n v)) e2 fun z => z
          have R3 := R2.write (o := .lst (vs.set n v)) (d' := .lst (ds.set n d)) hi hl p1 ⟨_, upd_same, RepL.move mv _ _ (RepL.set (Rep.move (Mv.same s2) _ _ r2) n (RepL.move (Mv.same s12) _ _ r1))⟩
          exact q3 O σ _ R3 ((Mv.same s12).trans mv)
        · exact q3.elim
      | _ => exact q3.elim
    | dic t kvs =>
      refine ⟨A, H0, O, en, R, ((Out.bind q1).se R).good fun d q2 v H1 s1 r2 => ⟨.ref a, p2, A, H0, O, en, R.to s1, ((Out.bind q2).se (R.to s1)).good fun k q3 w H2 s2 r3 => ?_⟩⟩
      split at q3
      · rename_i hk
        rw [Bool.and_eq_true, decide_eq_true_eq] at hk
        have s12 := s1.trans s2
        have R2 := R.to s12
        obtain ⟨a', p1', _, p3'⟩ := R2.owns i _ hl hi
        rw [p1] at p1'
        cases p1'
        refine .inr ⟨AO A O, t, kvs, k, d, a, rfl, .inr ⟨i, p1⟩, p3', r3, Rep.move (Mv.same s2) _ _ r2, hk.1, hk.2, fun ob g => ?_⟩
        obtain ⟨u0, hu0, hs0, _⟩ := OwnAt.obj (d := .dic t kvs) p3'
        have mv := own_mv R2 p1 (o := ob) hu0 hs0
        have R3 := R2.write (o := ob) (d' := .dic t (putD k d kvs)) hi hl p1 g
        exact q3 O σ _ R3 ((Mv.same s12).trans mv)
      · exact q3.elim
    | _ => exact q1.elim
/-- self.f = e -/
theorem s_setF {i : Nat} {cs : List String} {f : String} (F : ∀ c ∈ cs, Cls X.K (ca X.K c) ∧ NoAttr X.K (ca X.K c) (Str.ofString f)) (h : PS X st (sFld X.K (tVar i) (tE X.K W ow m) (Str.ofString f))) (hi : ow i = true) : PS X st (tS fr X.K W ow (setF i cs f m)) :=
  PS.of h fun D σ H ⟨A, H0, O, en, R, q⟩ => by
    obtain ⟨l, hl, q1⟩ := var_ok q
    obtain ⟨a, p1, p2, p3⟩ := R.owns i l hl hi
    cases l with
    | ins c fs =>
      obtain ⟨dx, fvs, e1, r1⟩ := p3
      simp only at q1
      split at q1
      · rename_i hz
        obtain ⟨f1, f2⟩ := F c (by simpa using hz.1)
        refine ⟨A, H0, O, en, R, ((Out.bind q1).se R).good fun d q2 v H1 s1 r2 => ⟨.ref a, p2, a, _, dx, fvs, rfl, s1 _ _ e1, f1, f2, by rw [← r1.length]; exact hz.2, ?_⟩⟩
        have R1 := R.to s1
        have mv := own_mv R1 p1 (o := .ins (ca X.K c) dx (L2.putF (Str.ofString f) v fvs)) (s1 _ _ e1) fun z => z
        have R2 := R1.write (o := .ins (ca X.K c) dx (L2.putF (Str.ofString f) v fvs)) (d' := .ins c (putF f d fs)) hi hl p1 ⟨dx, _, upd_same, RepF.move mv _ _ (RepF.put r2 (RepF.move (Mv.same s1) _ _ r1))⟩
        exact q2 O σ _ R2 ((Mv.same s1).trans mv)
      · exact q1.elim
    | _ => exact q1.elim
end
end Py
/-! Calls, defs, classes. -/
namespace Py
open PySem L2
theorem takes0N {X : Cx} : L2N.Takes X (fun _ _ _ _ => False) := fun u s' x => by
  obtain ⟨a, B, sI, pins, σ, H, cls, d, x1, x2, x3, x4, x5, x6, x7, x8, z⟩ := x
  exact z.elim
theorem passLN {X : Cx} : Passes (L2N.CX X.prog X.w) X E0 := fun pins σ H s e s' I h => by
  obtain ⟨a, B, H', cls, d, x1, x2, x3, x4, x5, x6, x7, z⟩ := h
  exact z.elim
/-- where one stands: k calls deep there is room -/
structure Ctx (X : Cx) (W : WX) (k : Nat) : Prop where
  calm : X.calm = true
  tk : L2N.Takes X W
  po : PassesOwn (model X.prog X.w) X.A X.env X.xe
  hr : Room k X.A
  nd : X.N.Nodup
theorem Ctx.blk {X : Cx} {W : WX} {k : Nat} (c : Ctx X W k) (s : Shared) (H : Hp) (scope : Scope) (cenv : PySem.Env) (fp : List Addr) : Ctx (X.blk s H scope cenv fp) W0 k := ⟨c.calm, takes0N, PassesOwn.never, c.hr, c.nd⟩
/-- what a def asks of its number of arguments -/
structure Ar (n : Nat) (fm : List D → Res D) : Prop where
  st : ∀ ds, ds.length ≠ n → fm ds = .stuck
theorem Ar.len {n : Nat} {fm : List D → Res D} {ds : List D} {good : D → Prop} {bad : String → List (String × D) → Prop} (h : Ar n fm) (q : Out (fm ds) good bad) : ds.length = n := by
  by_cases hl : ds.length = n
  · exact hl
  · rw [h.st ds hl] at q
    exact q.elim
theorem ar_fn {p n : Nat} {body : SM} : Ar p (fn p n body) := ⟨fun ds h => if_neg h⟩
/-- a def that computes m of its arguments -/
def spM (K : Frag) (p : Nat) (m : List D → Res D) : Sp := fun vs H Q E => ∃ A ds, RepL K A H ds vs ∧ ds.length = p ∧ (∀ a, A a → H a ≠ none) ∧
  Out (m ds) (fun d => ∀ v H', Same H H' → Rep K A H' d v → Q v H') (fun c fs => ∀ da H' fvs, Same H H' → H' da = some (.xd fvs) → RepF K A H' fs fvs → E (.ref (ca K c)) (some da) H')
/-- an __init__ that makes m of the arguments behind self -/
def spI (K : Frag) (p : Nat) (cls : String) (m : List D → Res D) : Sp := fun vs H Q E => ∃ A x dx H1 ds ws, vs = .ref x :: ws ∧ H = upd (upd H1 dx (.own x)) x (.ins (ca K cls) dx []) ∧ H1 x = none ∧ H1 dx = none ∧ dx ≠ x ∧ RepL K A H1 ds ws ∧ ds.length + 1 = p ∧ (∀ a, A a → H1 a ≠ none) ∧
  Out (m ds) (fun d => ∀ H', Same H1 H' → Rep K A H' d (.ref x) → Q .non H') (fun c fs => ∀ da H' fvs, Same H1 H' → H' da = some (.xd fvs) → RepF K A H' fs fvs → E (.ref (ca K c)) (some da) H')
section
variable {X : Cx} {W : WX} {ow : Ow} {a b c e : Expr} {es : List Expr} {m ma mb mc : EM} {am : AM} {pos p : Pos} {k j n : Nat} {f C : Addr} {fd : FuncData} {ps : List Str} {x : Str} {fm : List D → Res D}
theorem call_of {E : St → XK} (hE : ∀ σ cls d H, W cls d σ H → E σ cls d H) {σ : L2.St} {H : Hp} {Q : VK} (h : tE X.K W ow (call fm am) σ H Q) (hn : Ar n fm) : tCallSD (spM X.K n fm) [] E (aE X.K W ow am) σ H Q := by
  obtain ⟨A, H0, O, en, R, q⟩ := h
  refine ⟨A, H0, O, en, R, (Out.bind q).good fun ds q1 vs H1 s1 r1 => ?_⟩
  dsimp only
  rw [List.append_nil]
  exact ⟨AO A O, ds, paired_rep r1, hn.len q1, (R.to s1).there, q1.imp (fun d _ k v H2 s2 r2 => k v H2 (s1.trans s2) r2) fun c fs z da H2 fvs s2 q2 r2 => hE _ _ _ _ (z da H2 fvs (s1.trans s2) q2 r2)⟩
theorem x_call (T : Ctx X W j) (F : FnOk X.prog X.w X.K X.mg X.base (L2N.CX X.prog X.w) k f fd ps (spM X.K n fm)) (hn : Ar n fm) (hk : k ≤ j) (hg : Gl X x) (hm : X.mg x = some (.ref f)) (hkp : PySem.W.keepIn X.K (.ref f) = true) (hb : Binds X.K fd ps [])
    (ha : PA X (e :: es) (aE X.K W ow am)) (hdb : (x == ("__debug__" : Str)) = false := by decide) (he : starEach (e :: es) X.env = (false, eval e X.env) :: starEach es X.env := by rfl) (hpl : (backTo pos (starEach es X.env)).any (·.1) = false := by rfl) :
    PE X (.Call (.Name x p) (e :: es) [] pos) (tE X.K W ow (call fm am)) :=
  PE.of (pe_callSD (E := WE W) F (T.hr.mono hk) hg hm hkp hb .nil (fun σ => L2N.passAt T.tk σ) ha hdb he hpl) fun _ _ _ h => call_of (fun _ _ _ _ z => z) h hn
/-- C(..) of an own class: what it may let out, at the slots that stand now -/
def tMk (C : Addr) (sp : Sp) (E : St → XK) (t : TA) : TE := fun σ H Q => t σ H fun vs H1 => ∀ y dy, H1 y = none → H1 dy = none → dy ≠ y → sp (.ref y :: vs) (upd (upd H1 dy (.own y)) y (.ins C dy [])) (fun v H2 => v = .non ∧ Q (.ref y) H2) (E σ)
theorem mk_run {CX : CXT} {E : XK} {sp : Sp} {pins : List (Addr × Obj)} {σ : St} {H : Hp} {s : Shared} {Q : VK} {us : List Value} {vs : List V} (M : Mk X.K C f) (F : FnOk X.prog X.w X.K X.mg X.base CX k f fd ps sp) (hr : Room (k + 1) X.A) (hb : Binds X.K fd ps [])
    (hx : PassesAt CX X σ E) (I : Inv X pins σ H s) (rv : Vals vs us)
    (h : ∀ y dy, H y = none → H dy = none → dy ≠ y → sp (.ref y :: vs) (upd (upd H dy (.own y)) y (.ins C dy [])) (fun v H2 => v = .non ∧ Q (.ref y) H2) E) : wpAny (model X.prog X.w) X.A (PySem.call (.ref C) us) (EP X pins σ Q) X.xe s := by
  have e0 := I.hok.fresh (Nat.le_refl s.heap.objs.size)
  have e1 := I.hok.fresh (Nat.le_succ s.heap.objs.size)
  have q := h _ _ e1 e0 (Nat.ne_of_lt (Nat.lt_succ_self _))
  have J := Inv.made (C := C) I
  have rw' : Vals (V.ref (s.heap.objs.size + 1) :: vs) (Value.ref (s.heap.objs.size + 1) :: us) := .cons rfl rv
  have hl : (Value.ref (s.heap.objs.size + 1) :: us).length = ps.length := rw'.length.symm.trans (F.len _ _ _ _ q)
  have b := hb _ (Value.ref (s.heap.objs.size + 1) :: us) J.kIn (by rw [List.append_nil]; exact hl)
  rw [List.append_nil] at b
  refine wpAny_call (make_map (f := f) I.kIn M.makes M.init (beq_iff_eq.mp M.fn) (codeAny_mono (F.run _ X.stack _ _ ⟨Value.ref (s.heap.objs.size + 1) :: us, []⟩ _ _ _ E (hr.make C us []) (J.env0.make C us []) b rw' q) ?_))
  rintro (u | fl) s' z
  · exact hx pins _ _ u s' J z
  · cases fl with
    | ret u =>
      obtain ⟨v, H', I3, r3, rfl, q3⟩ := J.after z
      exact ⟨r3, V.ref (s.heap.objs.size + 1), H', I3, rfl, q3⟩
    | next => exact False.elim z
    | brk => exact False.elim z
    | cont => exact False.elim z
theorem mk_pe {CX : CXT} {E : St → XK} {sp : Sp} {t : TA} (M : Mk X.K C f) (F : FnOk X.prog X.w X.K X.mg X.base CX k f fd ps sp) (hr : Room (k + 1) X.A) (hg : Gl X x) (hm : X.mg x = some (.ref C)) (hb : Binds X.K fd ps []) (hx : ∀ σ, PassesAt CX X σ (E σ))
    (ha : PA X (e :: es) t) (hdb : (x == ("__debug__" : Str)) = false := by decide) (he : starEach (e :: es) X.env = (false, eval e X.env) :: starEach es X.env := by rfl) (hpl : (backTo pos (starEach es X.env)).any (·.1) = false := by rfl) :
    PE X (.Call (.Name x p) (e :: es) [] pos) (tMk C sp E t) :=
  ⟨fun pins s σ H Q I h => wpAny_Call_Name_kw (ld_glob I hg hm (PySem.W.callWith_K (h₀ := X.base) I.ok.mod.kin M.kp (thn (ha.run pos pins s σ H _ I h) fun us s1 ⟨vs, H1, I1, r, q⟩ => ⟨I1.kIn, mk_run M F hr hb (hx σ) I1 r q⟩) he hpl) hdb)⟩
theorem x_make {cls : String} (T : Ctx X W j) (M : Mk X.K (ca X.K cls) f) (F : FnOk X.prog X.w X.K X.mg X.base (L2N.CX X.prog X.w) k f fd ps (spI X.K n cls fm)) (hn : ∀ ds, ds.length + 1 ≠ n → fm ds = .stuck)
    (hk : k + 1 ≤ j) (hg : Gl X x) (hm : X.mg x = some (.ref (ca X.K cls))) (hb : Binds X.K fd ps [])
    (ha : PA X (e :: es) (aE X.K W ow am)) (hdb : (x == ("__debug__" : Str)) = false := by decide) (he : starEach (e :: es) X.env = (false, eval e X.env) :: starEach es X.env := by rfl) (hpl : (backTo pos (starEach es X.env)).any (·.1) = false := by rfl) :
    PE X (.Call (.Name x p) (e :: es) [] pos) (tE X.K W ow (call fm am)) :=
  PE.of (mk_pe (E := WE W) M F (T.hr.mono hk) hg hm hb (fun σ => L2N.passAt T.tk σ) ha hdb he hpl) fun σ H Q ⟨A, H0, O, en, R, q⟩ => by
    refine ⟨A, H0, O, en, R, (Out.bind q).good fun ds q1 vs H1 s1 r1 y dx hy hdx hne => ?_⟩
    have sm : Same H1 (upd (upd H1 dx (.own y)) y (.ins (ca X.K cls) dx [])) := fun b o e => by
      rw [upd_ne (ne_of_none e hy), upd_ne (ne_of_none e hdx)]
      exact e
    refine ⟨AO A O, y, dx, H1, ds, vs, rfl, rfl, hy, hdx, hne, paired_rep r1, ?_, (R.to s1).there, ?_⟩
    · by_cases hl : ds.length + 1 = n
      · exact hl
      · rw [hn ds hl] at q1
        exact q1.elim
    · exact q1.imp (fun d _ k H2 s2 r2 => ⟨rfl, k _ H2 (s1.trans s2) r2⟩) fun c fs z da H2 fvs s2 q2 r2 => z da H2 fvs (s1.trans s2) q2 r2
end
/-! ### defs -/
section
variable {P : Program} {w : World} {K : Frag} {mg : Str → Option Value} {base : Heap} {name qual : Str} {params : Arguments} {body : List Stmt} {scope : Scope} {dvs : List V} {kws : List (Str × V)} {f : Addr} {fd : FuncData} {N ps : List Str} {k : Nat} {ow oN oB : Ow} {m : SM}
theorem start_get {N : List Str} {vs : List V} {i : Nat} {v : V} (h : vs[i]? = some v) : (L2.start N vs)[i]? = some (some v) := by
  unfold L2.start
  have hi := (List.getElem?_eq_some_iff.mp h).1
  rw [List.getElem?_append_left (by simpa using hi), List.getElem?_map, h]
  rfl
abbrev WD (E : XK) : WX := fun c d _ H => E c d H
/-- a def's start -/
theorem spM_start {E : XK} {vs : List V} {H : Hp} {Q : VK} (hpre : ps.length ≤ N.length) (hx : ow.x = none) (hp : ∀ i, i < ps.length → ow i = false) (h : spM K ps.length (fn ps.length N.length m) vs H Q E) :
    tS3 .val K (WD E) ow oN oB m { nx := fun _ H' => Q .non H', rt := Q } (L2.start N vs) H := by
  obtain ⟨AV, ds, r, hl, ha, q⟩ := h
  refine ⟨AV, ⟨H, none⟩, fun _ => none, ds.map some ++ List.replicate (N.length - ps.length) none, ?_, ?_⟩
  · have hlv := r.length
    have hN : ps.length ≤ N.length := hpre
    refine ⟨?_, ha, Same.refl H, fun i d h1 h2 => ?_, fun i d h1 h2 => ?_, fun i a h => (nomatch h), fun i j a h => (nomatch h), fun a h => (nomatch h), XFact.none hx⟩
    · unfold L2.start
      simp only [List.length_append, List.length_map, List.length_replicate]
      omega
    · by_cases hi : i < ds.length
      · rw [List.getElem?_append_left (by simpa using hi), List.getElem?_map, List.getElem?_eq_getElem hi] at h1
        simp only [Option.map_some, Option.some.injEq] at h1
        subst h1
        obtain ⟨v, hv, rv⟩ := r.get (List.getElem?_eq_getElem hi)
        exact ⟨v, start_get hv, Rep.move (Mv.less fun b hb => hb.elim id fun ⟨_, z⟩ => nomatch z) _ _ rv⟩
      · rw [List.getElem?_append_right (by simpa using hi)] at h1
        rw [List.getElem?_replicate] at h1
        split at h1 <;> cases h1
    · by_cases hi : i < ds.length
      · rw [hp i (by omega)] at h2
        cases h2
      · rw [List.getElem?_append_right (by simpa using hi)] at h1
        rw [List.getElem?_replicate] at h1
        split at h1 <;> cases h1
  · unfold fn at q
    rw [if_pos hl] at q
    refine (Out.bind q).imp (fun fl _ q => ?_) fun c fs q => ?_
    · cases fl with
      | next e' => exact fun O' σ' H' R' _ => q .non H' R'.same rfl
      | ret d => exact fun v H' s' r' => q v H' s' r'
      | brk e' => exact q.elim
      | cnt e' => exact q.elim
    · exact fun σ' da H' fvs s' q' r' => q da H' fvs s' q' r'
theorem pre_le {N ps : List Str} (h : N.take ps.length = ps) : ps.length ≤ N.length := by
  have h2 := congrArg List.length h
  rw [List.length_take] at h2
  omega
/-- a def whose body computes m -/
theorem fn_ok (F : FunD K name qual params body scope dvs kws f fd) (S : FnScope N ps scope) (hx : ow.x = none) (hp : ∀ i, i < ps.length → ow i = false)
    (hb : ∀ (cdv : Value) (A : Around) (outer : List PySem.Env) (s : Shared) (H : Hp) (E : XK), Ctx (cxOf (L2N.CX P w) P w K mg base N qual scope f cdv A outer s H E) (WD E) k →
      PSs (cxOf (L2N.CX P w) P w K mg base N qual scope f cdv A outer s H E) body (tS3 .val K (WD E) ow oN oB m)) :
    FnOk P w K mg base (L2N.CX P w) (k + 1) f fd ps (spM K ps.length (fn ps.length N.length m)) := by
  refine F.ok S (fun vs H Q E ⟨A, ds, r, h, _⟩ => r.length.symm.trans h) (fun cdv A outer s H vs Q E hr h => ?_)
  exact ⟨tS3 .val K (WD E) ow oN oB m, hb cdv A outer s H E ⟨rfl, L2N.takes_of rfl rfl rfl rfl, passes_of rfl, hr, S.nd⟩, spM_start (pre_le S.pre) hx hp h⟩
/-- an __init__ whose body fills self, which stands in slot 0 -/
theorem init_ok {cls : String} (F : FunD K name qual params body scope dvs kws f fd) (S : FnScope N ps scope) (hox : ow.x = none) (h0 : ow 0 = true) (hp0 : 0 < ps.length) (hp : ∀ i, 0 < i → i < ps.length → ow i = false)
    (hb : ∀ (cdv : Value) (A : Around) (outer : List PySem.Env) (s : Shared) (H : Hp) (E : XK), Ctx (cxOf (L2N.CX P w) P w K mg base N qual scope f cdv A outer s H E) (WD E) k →
      PSs (cxOf (L2N.CX P w) P w K mg base N qual scope f cdv A outer s H E) body (tS .val K (WD E) ow m)) :
    FnOk P w K mg base (L2N.CX P w) (k + 1) f fd ps (spI K ps.length cls (made ps.length N.length cls m)) := by
  refine F.ok S (fun vs H Q E ⟨A, x, dx, H1, ds, ws, h1, _, _, _, _, r, h, _⟩ => by rw [h1, List.length_cons, ← r.length]; exact h) (fun cdv A outer s H vs Q E hr h => ?_)
  obtain ⟨AV, x, dx, H1, ds, ws, rfl, hH, hx, hdx, hne, r, hl, ha, q⟩ := h
  have sd : Same H1 (upd H1 dx (.own x)) := fun b o e => by
    rw [upd_ne (ne_of_none e hdx)]
    exact e
  have hx2 : upd H1 dx (.own x) x = none := by
    rw [upd_ne fun z => hne z.symm]
    exact hx
  have s2 : Same (upd H1 dx (.own x)) H := by
    rw [hH]
    exact new_same hx2
  have s1 : Same H1 H := sd.trans s2
  refine ⟨tS .val K (WD E) ow m, hb cdv A outer s H E ⟨rfl, L2N.takes_of rfl rfl rfl rfl, passes_of rfl, hr, S.nd⟩, AV, ⟨upd H1 dx (.own x), some x⟩, fun i => if i = 0 then some x else none, (some (.ins cls []) :: ds.map some) ++ List.replicate (N.length - ps.length) none, ?_, ?_⟩
  · have hlv := r.length
    have hN : ps.length ≤ N.length := by
      have := S.pre
      have h2 := congrArg List.length this
      rw [List.length_take] at h2
      omega
    have nx : ∀ i a, (if i = 0 then some x else none) = some a → i = 0 ∧ a = x := fun i a h => by
      by_cases hi : i = 0
      · rw [if_pos hi] at h
        cases h
        exact ⟨hi, rfl⟩
      · rw [if_neg hi] at h
        cases h
    have mv : Mv AV H1 (AO AV fun i => if i = 0 then some x else none) H := ⟨fun b hb => by
      rcases hb with hb | ⟨i, hb⟩
      · exact .inl hb
      · rw [(nx i b hb).2]
        exact .inr hx, fun b o e _ => s1 b o e⟩
    refine ⟨?_, fun b hb => ne_none s1 (ha b hb), s2, fun i d h1 h2 => ?_, fun i d h1 h2 => ?_, fun i a h => ?_, fun i j a h h' => (nx i a h).1.trans (nx j a h').1.symm, fun a h => ?_, XFact.none hox⟩
    · unfold L2.start
      simp only [List.length_append, List.length_map, List.length_replicate, List.length_cons]
      omega
    · cases i with
      | zero =>
        rw [h0] at h2
        cases h2
      | succ i =>
        by_cases hi : i < ds.length
        · rw [List.getElem?_append_left (by simpa using hi), List.getElem?_cons_succ, List.getElem?_map, List.getElem?_eq_getElem hi] at h1
          simp only [Option.map_some, Option.some.injEq] at h1
          subst h1
          obtain ⟨v, hv, rv⟩ := r.get (List.getElem?_eq_getElem hi)
          exact ⟨v, start_get (by simpa using hv), Rep.move mv _ _ rv⟩
        · rw [List.getElem?_append_right (by simpa using hi)] at h1
          rw [List.getElem?_replicate] at h1
          split at h1 <;> cases h1
    · cases i with
      | zero =>
        simp only [List.cons_append, List.getElem?_cons_zero, Option.some.injEq] at h1
        subst h1
        refine ⟨x, rfl, start_get rfl, dx, [], ?_, by simp [RepF]⟩
        rw [hH]
        exact upd_same
      | succ i =>
        by_cases hi : i < ds.length
        · rw [hp (i + 1) (by omega) (by omega)] at h2
          cases h2
        · rw [List.getElem?_append_right (by simpa using hi)] at h1
          rw [List.getElem?_replicate] at h1
          split at h1 <;> cases h1
    · obtain ⟨_, rfl⟩ := nx i a h
      refine ⟨hx2, ?_, fun z => ha a z hx⟩
      rw [hH, upd_same]
      exact fun z => nomatch z
    · cases h
      rfl
  · unfold made at q
    rw [if_pos hl] at q
    refine (Out.bind q).imp (fun fl _ q => ?_) fun c fs q => ?_
    · cases fl with
      | next e' =>
        refine fun O' σ' H' R' _ => ?_
        cases e' with
        | nil => exact q.elim
        | cons d0 r0 =>
          cases d0 with
          | none => exact q.elim
          | some d1 =>
            cases d1 with
            | ins c fs =>
              have q2 : ∀ H', Same H1 H' → Rep K AV H' (.ins c fs) (.ref x) → Q .non H' := q
              refine q2 H' (sd.trans R'.same) ?_
              have hpin : O' 0 = some x := R'.pin x rfl
              obtain ⟨a, p1, p2, dx', fvs, p3, p4⟩ := R'.owns 0 (.ins c fs) rfl h0
              rw [hpin] at p1
              cases p1
              simp only [Rep]
              exact ⟨x, dx', fvs, rfl, fun z => ha x z hx, p3, RepF.move (Mv.less fun b => .inl) _ _ p4⟩
            | _ => exact q.elim
      | ret d => exact q.elim
      | brk e' => exact q.elim
      | cnt e' => exact q.elim
    · exact fun σ' da H' fvs s' q' r' => q da H' fvs (sd.trans s') q' r'
end
end Py
/-! enumerate over tuples and lists. -/
namespace PySem
open Builtin
theorem py_en_new {v : Value} {o : Obj} {H : Heap → Prop} (B : Begins v o H) :
    Meets (Builtin.«enumerate.__new__» ⟨[.type "enumerate", v], []⟩) (fun _ R s => H s.heap ∧
      R (.ok (.ret (.ref (s.heap.push o).objs.size))) { s with heap := (s.heap.push o).push { cls := .type "enumerate", data := .fields #[.none, .bool false, .ref s.heap.objs.size, rawInt 0, .none, .none] } }) :=
  .of_wp fun prog w A R s h => by
    obtain ⟨hp, g, d, tk, os⟩ := s
    obtain ⟨h1, h⟩ := h
    have hsub := sub_enumerate
    have iter1 : ∀ {A' : Around} {E : Value → Shared → Prop} {Q : Value → Shared → Prop}, Q (.ref hp.objs.size) ⟨hp.push o, g, d, tk, os⟩ → wpAny (model prog w) A' (pyIter v) Q E ⟨hp, g, d, tk, os⟩ :=
      fun q => B.iter prog w _ _ ⟨hp, g, d, tk, os⟩ _ h1 q
    wp_walk using iter1
    refine wpAny_stack_any fun st => wpAny_pure ?_
    split
    · rename_i c _ _ _ _ _
      cases (c == Value.type "enumerate")
      · wp_walk using iter1
        exact ⟨_, rfl, h⟩
      · wp_walk using iter1
        exact ⟨_, rfl, h⟩
    · wp_walk using iter1
      exact ⟨_, rfl, h⟩
theorem py_en_call {prog : Program} {w : World} {A : Around} {E : Value → Shared → Prop} {s : Shared} {v : Value} {o : Obj} {H : Heap → Prop} {Q : Value → Shared → Prop} (B : Begins v o H) (h1 : H s.heap)
    (h : ∀ h', IsEnum h' (s.heap.objs.size + 1) s.heap.objs.size 0 .none → h'.get? s.heap.objs.size = some o → h'.objs.size = s.heap.objs.size + 2 →
      (∀ b o, s.heap.get? b = some o → h'.get? b = some o) → Q (.ref (s.heap.objs.size + 1)) { s with heap := h' }) :
    wpAny (model prog w) A (call (.type "enumerate") [v]) Q E s := by
  refine callType_new F.called_enumerate (by decide) (F.typeCall_enumerate_1 _) (F.newCall_enumerate_1 _) (fun obj => F.args_object_init_2 obj _) F.entry_enumerate_new (py_en_new B) ⟨h1, ?_⟩
  have hz : (s.heap.push o).objs.size = s.heap.objs.size + 1 := Heap.size_push ..
  show _ ∧ _
  rw [hz]
  have he : IsEnum ((s.heap.push o).push { cls := .type "enumerate", data := .fields #[.none, .bool false, .ref s.heap.objs.size, rawInt 0, .none, .none] }) (s.heap.objs.size + 1) s.heap.objs.size 0 .none := by
    have this := Heap.get?_push_size (s.heap.push o) (o := { cls := .type "enumerate", data := .fields #[.none, .bool false, .ref s.heap.objs.size, rawInt 0, .none, .none] }) rfl
    rw [hz] at this
    exact this
  exact ⟨⟨_, he, rfl⟩, h _ he (Heap.get?_push_of_some _ (Heap.get?_push_size _ B.free)) (by rw [Heap.size_push, hz]) fun b o x => Heap.get?_push_of_some _ (Heap.get?_push_of_some _ x)⟩
end PySem
namespace Py
open PySem L2
/-- enumerate over the tuple at a -/
def Iet (K : Frag) (a : Addr) : It :=
  ⟨fun i H => ∃ (xs : List V) (x : V), SqT K H a xs ∧ xs[i]? = some x, fun i H v H' => ∃ T x, v = .ref T ∧ H T = none ∧ H' = upd H T (.tup [.int (i : Nat), x]) ∧ ∀ xs, SqT K H a xs → xs[i]? = some x, fun i H => ∃ xs : List V, SqT K H a xs ∧ i = xs.length⟩
theorem turn_enumT {P : Program} {w : World} {K : Frag} {elts : List Expr} {kk : Nat} {tpos : Pos} (a e it : Addr) :
    Turn P w K (.Tuple elts kk tpos) (Iet K a) [e, it] e (fun i h => (∃ old, IsEnum h e it ((i : Nat) : Int) old) ∧ h.IsTupleIter it a i ∧ e ≠ it ∧ a ≠ it ∧ a ≠ e) where
  mem := by simp
  obj := fun i h st b hb => by
    obtain ⟨⟨old, he⟩, ⟨o, ho, hc, hd⟩, _⟩ := st
    rcases (by simpa using hb : b = e ∨ b = it) with z | z
    · subst z
      exact ⟨_, he, fun v q => nomatch q⟩
    · subst z
      exact ⟨o, ho, fun v q => by rw [hd] at q; cases q⟩
  keep := fun i h h' st k => by
    obtain ⟨⟨old, he⟩, hi, n1, n2, n3⟩ := st
    exact ⟨⟨old, k e (by simp) _ he⟩, hi.at fun o q => k it (by simp) o q, n1, n2, n3⟩
  item := by
    intro X hP hw hK hc i pins s σ H E I hf st hg
    subst hP hw hK
    obtain ⟨⟨old, he⟩, hit, n1, n2, n3⟩ := st
    obtain ⟨xs, x, hq, hx⟩ := hg
    obtain ⟨its, rv, tp, hz⟩ := I.tuple hq
    obtain ⟨u, hu, ru⟩ := rv.get hx
    have hel : e < s.heap.objs.size := Heap.lt_size he
    have hil : it < s.heap.objs.size := by
      obtain ⟨_, q, _⟩ := hit
      exact Heap.lt_size q
    have hi : i < its.toArray.size := by
      have := (List.getElem?_eq_some_iff.mp hu).1
      simpa using this
    have htp : s.heap.IsTuple a its.toArray := tp
    refine wpAny_pyNext_enum_itemD (Draws.tuple (prog := X.prog) (w := X.w) (A := X.A.in1) (I.ok.hd hc) it a n2 its.toArray) he (show _ ∧ _ from ⟨hit, htp⟩) hi n1 (by simp [n1, n3.symm]) fun x' h' tk hP' ho hst' hT hsz hk => ?_
    have hxu : x' = u := by
      have q1 : its[i]? = some x' := by simpa using hP'
      rw [hu] at q1
      exact (Option.some.inj q1).symm
    subst hxu
    refine ⟨_, rfl, wpAny_letOwnedTupleGo_enum (s := { s with heap := h', toks := tk + 1 }) ho fun h'' he' sb => ?_⟩
    have hT2 : h''.get? s.heap.objs.size = some { cls := .type "tuple", data := .seq #[.int i tk, x'] } := (sb.2 _ (Nat.ne_of_gt hel)).trans hT
    have new : ObjOk X.prog X.w (upd H s.heap.objs.size (.tup [.int (i : Nat), x])) h'' s.heap.objs.size (.tup [.int (i : Nat), x]) :=
      ⟨by show 2 ≤ sizeLine; decide, [.int i tk, x'], .cons ⟨_, rfl⟩ (.cons ru .nil), ⟨_, hT2, rfl, _, rfl⟩⟩
    have I1 : Inv X pins σ (upd H s.heap.objs.size (.tup [.int (i : Nat), x])) { s with heap := h'', toks := tk + 1 } :=
      I.turnedNew (ch := [e, it]) (fun b ob hb q => (sb.2 b fun z => hb (by simp [z])).trans (hk b ob (fun z => hb (by simp [z])) (fun z => hb (by simp [z])) q)) hf (Nat.le_refl _) new
    refine ⟨.ref s.heap.objs.size, _, I1, rfl, ⟨_, x, rfl, I.hok.fresh (Nat.le_refl _), rfl, fun ys hy => by rw [I.tuple_inj hy hq]; exact hx⟩, ⟨⟨x', ?_⟩, hst'.1.at fun o q => (sb.2 it n1.symm).trans q, n1, n2, n3⟩, fun b hb => ?_⟩
    · have e1 : ((i + 1 : Nat) : Int) = (i : Int) + 1 := by omega
      rw [e1]
      exact he'
    · have hb' : b < s.heap.objs.size := by
        rcases (by simpa using hb : b = e ∨ b = it) with z | z
        · subst z
          exact hel
        · subst z
          exact hil
      rw [upd_ne (Nat.ne_of_lt hb')]
      exact (hf b hb).1
  done := by
    intro X hP hw hK hc i pins s σ H E I hf st hg
    subst hP hw hK
    obtain ⟨⟨old, he⟩, hit, n1, n2, n3⟩ := st
    obtain ⟨xs, hq, hx⟩ := hg
    obtain ⟨its, rv, tp, hz⟩ := I.tuple hq
    obtain ⟨f0, f1, f2, f3, f4, f5⟩ := hf it (by simp)
    have hl := rv.length
    have htp : s.heap.IsTuple a its.toArray := tp
    have hi2 : i = its.toArray.size := by
      rw [List.size_toArray]
      omega
    subst hi2
    exact wpAny_pyNext_enum_endD (Draws.tuple (prog := X.prog) (w := X.w) (A := X.A.in1) (I.ok.hd hc) it a n2 its.toArray) he (show _ ∧ _ from ⟨hit, htp⟩) fun h' eb => ⟨rfl, I.turned (t' := s.toks) (fun b o hb q => eb b o hb q) f0 f1 f3 f4 f5⟩
  self := fun A i s Q E st h => by
    obtain ⟨⟨_, he⟩, _⟩ := st
    exact wpAny_pyIter_enum he h
section
variable {X : Cx} {W : WX} {ow : Ow} {a b c e : Expr} {es elts : List Expr} {m ma mb mc : EM} {pos p tpos : Pos} {kk : Nat}
def iEnumE (K : Frag) (ta : TA) : TI := fun σ H R => ta σ H fun vs H1 => ∃ a, vs = [.ref a] ∧ ((∃ xs, SqL K H1 a xs ∧ R (Ite K a) H1) ∨ ∃ xs, SqT K H1 a xs ∧ R (Iet K a) H1)
theorem pi_enumE {ta : TA} (hg : Gl X "enumerate") (hm : X.mg "enumerate" = none) (ha : PA X [e] ta) (hs : starEach [e] X.env = [(false, eval e X.env)] := by rfl) : PI X (.Tuple elts kk tpos) (.Call (.Name "enumerate" p) [e] [] pos) (iEnumE X.K ta) := by
  refine ⟨fun pins s σ H R I h => ?_⟩
  refine PyProof.Rows.Call_ (ld_blt I hg hm PyProof.Rows.boot_enumerate (PyProof.Rows.callWith_type1 (thn (ha.run pos pins s σ H _ I h) fun us s1 ⟨vs, H1, I1, r1, q1⟩ => ?_) hs rfl))
  obtain ⟨a, ex, q⟩ := q1
  subst ex
  obtain ⟨u, rfl, ru⟩ := vals1 r1
  cases ru
  have fin : ∀ b ∈ [s1.heap.objs.size + 1, s1.heap.objs.size], FpOk X pins H1 b := fun b hb => by
    have hle : s1.heap.objs.size ≤ b := by
      rcases (by simpa using hb : b = s1.heap.objs.size + 1 ∨ b = s1.heap.objs.size) with z | z
      · rw [z]
        exact Nat.le_add_right _ _
      · rw [z]
        exact Nat.le_refl _
    exact I1.fpOk hle (I1.hok.fresh hle)
  rcases q with ⟨xs, hq, q⟩ | ⟨xs, hq, q⟩
  · obtain ⟨its, rv, tp, hz⟩ := I1.list hq
    refine py_en_call (begins_list a its.toArray) tp.isList fun h' he hit hsz hk => wpAny_pyIter_enum he ?_
    exact ⟨s1.heap.objs.size + 1, [s1.heap.objs.size + 1, s1.heap.objs.size], _, _, H1, rfl, I1.kept (t' := s1.toks) hk, turn_enum a (s1.heap.objs.size + 1) s1.heap.objs.size, ⟨⟨.none, he⟩, ⟨_, hit, rfl, rfl⟩, Nat.succ_ne_self _⟩, fin, q⟩
  · obtain ⟨its, rv, tp, hz⟩ := I1.tuple hq
    have hlt : a < s1.heap.objs.size := tp.lt
    refine py_en_call (begins_tuple a its.toArray) tp fun h' he hit hsz hk => wpAny_pyIter_enum he ?_
    exact ⟨s1.heap.objs.size + 1, [s1.heap.objs.size + 1, s1.heap.objs.size], _, _, H1, rfl, I1.kept (t' := s1.toks) hk, turn_enumT a (s1.heap.objs.size + 1) s1.heap.objs.size, ⟨⟨.none, he⟩, ⟨_, hit, rfl, rfl⟩, Nat.succ_ne_self _, Nat.ne_of_lt hlt, Nat.ne_of_lt (Nat.lt_succ_of_lt hlt)⟩, fin, q⟩
theorem enumL_get : ∀ {ds : List D} {n i : Nat} {d : D}, ds[i]? = some d → (enumL n ds)[i]? = some (.tup [.int ((n + i : Nat) : Int), d])
  | [], _, _, _, h => by simp at h
  | x :: ds, n, 0, d, h => by
    simp at h
    subst h
    rfl
  | x :: ds, n, i + 1, d, h => by
    simp only [enumL, List.getElem?_cons_succ]
    rw [enumL_get (n := n + 1) (by simpa using h)]
    rw [Nat.add_right_comm]
    rfl
theorem enumL_len : ∀ (ds : List D) (n : Nat), (enumL n ds).length = ds.length
  | [], _ => rfl
  | x :: ds, n => by
    simp only [enumL, List.length_cons]
    rw [enumL_len ds]
theorem enum_item {K : Frag} {A : AS} {H : Hp} {T : Addr} {i : Nat} {d : D} {v : V} (hn : H T = none) (r : Rep K A H d v) : Same H (upd H T (.tup [.int (i : Nat), v])) ∧ Rep K A (upd H T (.tup [.int (i : Nat), v])) (.tup [.int ((0 + i : Nat) : Int), d]) (.ref T) := by
  refine ⟨new_same hn, new_tup ?_ hn⟩
  rw [Nat.zero_add]
  simp only [RepL]
  exact ⟨_, _, rfl, rfl, v, [], rfl, r, rfl⟩
theorem itm_enumT {K : Frag} {A : AS} {H : Hp} {a : Addr} {ds : List D} {vs : List V} (q : SqT K H a vs) (r : RepL K A H ds vs) : Itm Mv K A (Iet K a) (enumL 0 ds) H := fun i A2 H2 m => by
  have q2 := SqT.move m q
  have r2 := RepL.move m ds vs r
  rw [enumL_len]
  refine ⟨fun hi => ?_, fun hi => ⟨vs, q2, by rw [← r.length]; exact hi⟩⟩
  obtain ⟨v, hv, rv⟩ := r2.get (i := i) (List.getElem?_eq_getElem hi)
  refine ⟨⟨vs, v, q2, hv⟩, fun x H3 ⟨T, x', e1, hn, e2, k⟩ => ?_⟩
  subst e1 e2
  have := k vs q2
  rw [hv] at this
  cases this
  obtain ⟨s1, r1⟩ := enum_item (i := i) hn rv
  exact ⟨s1, _, enumL_get (List.getElem?_eq_getElem hi), r1⟩
theorem itm_enumL {M : MvT} {K : Frag} {A : AS} {H : Hp} {a : Addr} {ds : List D} {vs : List V} (hM : ∀ A2 H2, M A H A2 H2 → Mv A H A2 H2 ∧ Rd H2 a (.lst vs)) (r : RepL K A H ds vs) : Itm M K A (Ite K a) (enumL 0 ds) H := fun i A2 H2 m => by
  obtain ⟨mv, rd⟩ := hM A2 H2 m
  have q2 : SqL K H2 a vs := .inl rd
  have r2 := RepL.move mv ds vs r
  rw [enumL_len]
  refine ⟨fun hi => ?_, fun hi => ⟨vs, q2, by rw [← r.length]; exact Nat.le_of_eq hi.symm⟩⟩
  obtain ⟨v, hv, rv⟩ := r2.get (i := i) (List.getElem?_eq_getElem hi)
  refine ⟨⟨vs, v, q2, hv⟩, fun x H3 ⟨T, x', e1, hn, e2, k⟩ => ?_⟩
  subst e1 e2
  have := k vs q2
  rw [hv] at this
  cases this
  obtain ⟨s1, r1⟩ := enum_item (i := i) hn rv
  exact ⟨s1, _, enumL_get (List.getElem?_eq_getElem hi), r1⟩
theorem i_enum (hg : Gl X "enumerate") (hm : X.mg "enumerate" = none) (ha : PE X a (tE X.K W ow ma)) (hs : starEach [a] X.env = [(false, eval a X.env)] := by rfl) : PI X (.Tuple elts kk tpos) (.Call (.Name "enumerate" p) [a] [] pos) (tI Mv X.K W ow (ienum ma)) :=
  PI.of (pi_enumE hg hm (pa_cons ha pa_nil hs) hs) fun σ H R' ⟨A, H0, O, en, R, q⟩ => ⟨A, H0, O, en, R, (Out.bind (Out.bind q)).good fun d q1 v H1 s1 r1 => by
    cases d with
    | lst xs =>
      obtain ⟨p, vs, rfl, n, h, r⟩ := (by simpa only [Rep] using r1 : ∃ a vs, v = .ref a ∧ ¬ AO A O a ∧ Rd H1 a (.lst vs) ∧ RepL X.K (AO A O) H1 xs vs)
      exact ⟨p, rfl, .inl ⟨vs, .inl h, q1 _ H1 s1 (itm_enumL (fun A2 H2 m => ⟨m, (Rd.move m h n).1⟩) r)⟩⟩
    | tup xs =>
      obtain ⟨p, vs, rfl, h, r⟩ := (by simpa only [Rep] using r1 : ∃ a vs, v = .ref a ∧ SqT X.K H1 a vs ∧ RepL X.K (AO A O) H1 xs vs)
      exact ⟨p, rfl, .inr ⟨vs, h, q1 _ H1 s1 (itm_enumT h r)⟩⟩
    | _ => exact q1.elim⟩
end
end Py
/-! Comprehensions as expressions, what the module's names stand for, the ends. -/
namespace Py
open PySem L2
theorem f_le {K : Frag} {W : WX} {ow : Ow} {m : EM} {σ : L2.St} {H : Hp} {Q : VK} (h : tE K W ow m σ H Q) : tF K W ow m σ H Q := by
  obtain ⟨A, H0, O, en, R, q⟩ := h
  refine ⟨A, H0, O, en, R, q.good fun d k a H' n s r => k (.ref a) H' s ?_⟩
  have na : ¬ AO A O a := fun z => R.there a z n
  have mv : Mv (fun b => AO A O b ∨ b = a) H' (AO A O) H' := Mv.less fun b x => .inl x
  exact r.rep mv na
section
variable {X : Cx} {W : WX} {ow : Ow} {a b c e : Expr} {es : List Expr} {m ma mb mc : EM} {am : AM} {pos p spos : Pos} {k j n : Nat}
variable {elt tg iter : Expr} {ifs : List Expr} {scope : Scope} {own : List (Str × Nat)} {it : IM} {g : GM} {t : TM} {me : EM} {ts : List Nat}
theorem ts_nil : PTs X [] (tT X.K W ow yes) := ⟨fun pins s σ H Q I ⟨A, H0, O, en, R, q⟩ => pts_nil.run pins s σ H Q I (q H (Same.refl H))⟩
theorem ts_one (h : PT X c (tT X.K W ow t)) : PTs X [c] (tT X.K W ow t) := pts_one h
/-- [elt for tg in iter if ..] -/
theorem f_lc (T : Ctx X W j) (hi : PI X tg iter (tI Gr X.K W ow it)) (ok : BlkOk X.N X.env.scope scope own)
    (hg : ∀ (s : Shared) (H : Hp) (C : Addr) (cl : List (Str × Addr)) (fp : List Addr), Ctx (X.blk s H scope (compEnvC scope cl C X.env) fp) W0 j → PG (X.blk s H scope (compEnvC scope cl C X.env) fp) tg (tGt X.K ow ts g))
    (ht : ∀ (s : Shared) (H : Hp) (C : Addr) (cl : List (Str × Addr)) (fp : List Addr), Ctx (X.blk s H scope (compEnvC scope cl C X.env) fp) W0 j → PTs (X.blk s H scope (compEnvC scope cl C X.env) fp) ifs (tT X.K W0 ow t))
    (he : ∀ (s : Shared) (H : Hp) (C : Addr) (cl : List (Str × Addr)) (fp : List Addr), Ctx (X.blk s H scope (compEnvC scope cl C X.env) fp) W0 j → PE (X.blk s H scope (compEnvC scope cl C X.env) fp) elt (tE X.K W0 ow me))
    (hts : ∀ i ∈ ts, i ∈ own.map (·.2)) (hx : ow.x = none := by rfl) (hs : ∀ x, foldedSetIterable iter X.env x = pure x := by intro _; rfl) :
    PE X (.ListComp elt [⟨tg, iter, ifs, 0⟩] scope pos) (tF X.K W ow (lcE it (own.map (·.2)) g t me)) :=
  PE.of (pe_lc T.calm T.nd hi ok (fun s H C cl fp => hg s H C cl fp (T.blk ..)) (fun s H C cl fp => ht s H C cl fp (T.blk ..)) (fun s H C cl fp => he s H C cl fp (T.blk ..)) hs) fun _ _ _ h => lc_of hx hts h
/-- y = [..], y a plain local -/
theorem s_lc0 {i : Nat} {y : Str} {py : Pos} (T : Ctx X W j) (hy : X.N[i]? = some y) (hyl : X.env.scope.names.lookup y = some .local)
    (hsw : swapsWith (.ListComp elt [⟨tg, iter, ifs, 0⟩] scope pos) (some (.Name y py)) spos.line X.env = pure true) (hi : PI X tg iter (tI Gr X.K W ow it)) (ok : BlkOk X.N X.env.scope scope own)
    (hg : ∀ (s : Shared) (H : Hp) (C : Addr) (cl : List (Str × Addr)) (fp : List Addr), Ctx (X.blk s H scope (compEnvC scope cl C X.env) fp) W0 j → PG (X.blk s H scope (compEnvC scope cl C X.env) fp) tg (tGt X.K ow ts g))
    (ht : ∀ (s : Shared) (H : Hp) (C : Addr) (cl : List (Str × Addr)) (fp : List Addr), Ctx (X.blk s H scope (compEnvC scope cl C X.env) fp) W0 j → PTs (X.blk s H scope (compEnvC scope cl C X.env) fp) ifs (tT X.K W0 ow t))
    (he : ∀ (s : Shared) (H : Hp) (C : Addr) (cl : List (Str × Addr)) (fp : List Addr), Ctx (X.blk s H scope (compEnvC scope cl C X.env) fp) W0 j → PE (X.blk s H scope (compEnvC scope cl C X.env) fp) elt (tE X.K W0 ow me))
    (hts : ∀ i ∈ ts, i ∈ own.map (·.2)) (hx : ow.x = none := by rfl) (hs : ∀ x, foldedSetIterable iter X.env x = pure x := by intro _; rfl) :
    PS X (.Assign [.Name y py] (.ListComp elt [⟨tg, iter, ifs, 0⟩] scope pos) spos) (tAsg (tF X.K W ow (lcE it (own.map (·.2)) g t me)) (gName i)) :=
  PS.of (ps_setLc T.calm T.nd hy hyl hsw hi ok (fun s H C cl fp => hg s H C cl fp (T.blk ..)) (fun s H C cl fp => ht s H C cl fp (T.blk ..)) (fun s H C cl fp => he s H C cl fp (T.blk ..)) hs) fun _ _ _ h => lc_of hx hts h
theorem s_f {st : Stmt} {i : Nat} (h : PS X st (tAsg (tF X.K W ow m) (gName i))) : PS X st (tAsg (tE X.K W ow m) (gName i)) := PS.of h fun _ _ _ q => f_le q
/-! ### is True -/
end
/-! ### a try that runs through -/
theorem Ctx.nox {X : Cx} {W : WX} {k : Nat} (c : Ctx X W k) : Ctx X.nox W0 k := ⟨c.calm, takes0N, PassesOwn.never, c.hr, c.nd⟩
section
variable {fr : Rm} {X : Cx} {W : WX} {ow : Ow} {body : List Stmt} {u : SM} {h0 : ExceptHandler} {hs : List ExceptHandler} {pos : Pos} {j : Nat}
theorem s_thru (T : Ctx X W j) (hb : Ctx X.nox W0 j → PSs X.nox body (tS fr X.K W0 ow u)) : PS X (.Try body (h0 :: hs) [] [] pos) (tS fr X.K W ow (thru u)) :=
  PS.of (ps_try_thru0 (hb T.nox)) fun D σ H ⟨A, H0, O, en, R, q⟩ => ⟨A, H0, O, en, R, by
    have q1 : Out (noexc (u en)) (EndOk fr X.K A H0 ow O H D) (badS X.K W A H0) := q
    exact q1.noexc⟩
end
/-! ### what the module's names stand for -/
/-- the name x calls a def of n parameters that computes fm -/
def CallOk (P : Program) (w : World) (K : Frag) (mg : Str → Option Value) (base : Heap) (k : Nat) (x : Str) (d : He.DefD) (ps : List Str) (n : Nat) (fm : List D → Res D) : Prop := ∃ f fd, mg x = some (.ref f) ∧ PySem.W.keepIn K (.ref f) = true ∧ Binds K fd ps [] ∧ FnOk P w K mg base (L2N.CX P w) k f fd ps (spM K n fm) ∧ Ar n fm ∧ FunD K d.name d.qual d.params d.body d.scope [] [] f fd
/-- the name cls makes an instance -/
def MakeOk (P : Program) (w : World) (K : Frag) (mg : Str → Option Value) (base : Heap) (k : Nat) (cls : String) (n : Nat) (fm : List D → Res D) : Prop := ∃ f fd ps, mg (Str.ofString cls) = some (.ref (ca K cls)) ∧ Mk K (ca K cls) f ∧ Binds K fd ps [] ∧ FnOk P w K mg base (L2N.CX P w) k f fd ps (spI K n cls fm) ∧ ∀ ds, ds.length + 1 ≠ n → fm ds = .stuck
section
variable {X : Cx} {W : WX} {ow : Ow} {e : Expr} {es : List Expr} {am : AM} {pos p : Pos} {k j n : Nat} {x : Str} {fm : List D → Res D} {d : He.DefD} {ps : List Str}
theorem x_own1 (T : Ctx X W j) (C : CallOk X.prog X.w X.K X.mg X.base k x d ps n fm) (hk : k ≤ j) (hg : Gl X x) (ha : PA X (e :: es) (aE X.K W ow am)) (hdb : (x == ("__debug__" : Str)) = false := by decide)
    (he : starEach (e :: es) X.env = (false, eval e X.env) :: starEach es X.env := by rfl) (hpl : (backTo pos (starEach es X.env)).any (·.1) = false := by rfl) : PE X (.Call (.Name x p) (e :: es) [] pos) (tE X.K W ow (call fm am)) := by
  obtain ⟨f, fd, h1, h2, h3, h4, h5, _⟩ := C
  exact x_call T h4 h5 hk hg h1 h2 h3 ha hdb he hpl
theorem x_new {cls : String} (T : Ctx X W j) (C : MakeOk X.prog X.w X.K X.mg X.base k cls n fm) (hk : k + 1 ≤ j) (hg : Gl X (Str.ofString cls)) (ha : PA X (e :: es) (aE X.K W ow am)) (hdb : (Str.ofString cls == ("__debug__" : Str)) = false := by decide)
    (he : starEach (e :: es) X.env = (false, eval e X.env) :: starEach es X.env := by rfl) (hpl : (backTo pos (starEach es X.env)).any (·.1) = false := by rfl) : PE X (.Call (.Name (Str.ofString cls) p) (e :: es) [] pos) (tE X.K W ow (call fm am)) := by
  obtain ⟨f, fd, ps, h1, h2, h3, h4, h5⟩ := C
  exact x_make T h2 h4 h5 hk hg h1 h3 ha hdb he hpl
end
/-! ### defs by the head's facts -/
section
variable {P : Program} {w : World} {K : Frag} {mg : Str → Option Value} {base : Heap} {k : Nat} {ow oN oB : Ow} {m : SM} {name qual : Str} {params : Arguments} {body : List Stmt} {scope : Scope} {f : Addr} {N ps : List Str} {p n : Nat}
theorem def_ok {d : He.DefD} (F : ∃ fd, FunD K d.name d.qual d.params d.body d.scope [] [] f fd) (g : mg d.name = some (.ref f)) (S : FnScope N ps d.scope) (hpl : ps.length = p) (hnl : N.length = n) (hp : ∀ i, i < p → ow i = false)
    (hbind : ∀ (kV doc pm : Value) (an : Option Addr) (cdv ct : Value) (us : List Value), us.length = ps.length → bindArgs (PySem.W.fnOf d.name d.qual d.params d.body d.scope .none kV doc pm an cdv ct) ⟨us, []⟩ = pure (ps.zip us))
    (hb : ∀ (cdv : Value) (A : Around) (outer : List PySem.Env) (s : Shared) (H : Hp) (E : XK), Ctx (cxOf (L2N.CX P w) P w K mg base N d.qual d.scope f cdv A outer s H E) (WD E) k →
      PSs (cxOf (L2N.CX P w) P w K mg base N d.qual d.scope f cdv A outer s H E) d.body (tS3 .val K (WD E) ow oN oB m)) (hx : ow.x = none := by rfl) : CallOk P w K mg base (k + 1) d.name d ps p (fn p n m) := by
  obtain ⟨fd, F⟩ := F
  subst hpl hnl
  exact ⟨f, fd, g, F.kp, FunD.bindsN F hbind, fn_ok F S hx hp hb, ar_fn, F⟩
theorem ar_made {p n : Nat} {cls : String} {body : SM} : ∀ ds, ds.length + 1 ≠ p → made p n cls body ds = .stuck := fun ds h => if_neg h
theorem cls_ok {cls : String} (F : ∃ fd, FunD K name qual params body scope [] [] f fd) (g : mg (Str.ofString cls) = some (.ref (ca K cls))) (M : Mk K (ca K cls) f) (S : FnScope N ps scope) (hpl : ps.length = p) (hnl : N.length = n) (h0 : ow 0 = true) (hp0 : 0 < p) (hp : ∀ i, i < p → 0 < i → ow i = false)
    (hbind : ∀ (kV doc pm : Value) (an : Option Addr) (cdv ct : Value) (us : List Value), us.length = ps.length → bindArgs (PySem.W.fnOf name qual params body scope .none kV doc pm an cdv ct) ⟨us, []⟩ = pure (ps.zip us))
    (hb : ∀ (cdv : Value) (A : Around) (outer : List PySem.Env) (s : Shared) (H : Hp) (E : XK), Ctx (cxOf (L2N.CX P w) P w K mg base N qual scope f cdv A outer s H E) (WD E) k →
      PSs (cxOf (L2N.CX P w) P w K mg base N qual scope f cdv A outer s H E) body (tS .val K (WD E) ow m)) (hx : ow.x = none := by rfl) : MakeOk P w K mg base (k + 1) cls p (made p n cls m) := by
  obtain ⟨fd, F⟩ := F
  subst hpl hnl
  exact ⟨f, fd, ps, g, M, FunD.bindsN F hbind, init_ok F S hx h0 hp0 (fun i a b => hp i b a) hb, ar_made⟩
end
/-! ### the head's facts, tables, and one more -/
/-! ### a table of texts -/
def TabOk (K : Frag) (w : World) (mg : Str → Option Value) (x : Str) (tab : List (String × Int)) : Prop :=
  ∃ d es n, mg x = some (.ref d) ∧ KDict K w d es n ∧ ∀ z : String, ∃ r, PySem.W.nsIn K d (Str.ofString z) = some r ∧ (tab.lookup z = none → r = none) ∧ ∀ i, tab.lookup z = some i → ∃ t, r = some (.int i t)
theorem lookup_mem {z : String} {i : Int} : ∀ {tab : List (String × Int)}, tab.lookup z = some i → (z, i) ∈ tab
  | [], h => by cases h
  | (y, j) :: r, h => by
    rw [List.lookup_cons] at h
    split at h
    · rename_i e
      have e1 : z = y := by simpa using e
      cases h
      subst e1
      exact List.mem_cons_self
    · exact List.mem_cons_of_mem _ (lookup_mem h)
theorem lookup_no {z : String} : ∀ {tab : List (String × Int)}, tab.lookup z = none → ∀ q ∈ tab, q.1 ≠ z
  | [], _, q, hq => by cases hq
  | (y, j) :: r, h, q, hq => by
    rw [List.lookup_cons] at h
    split at h
    · cases h
    · rename_i e
      rcases List.mem_cons.mp hq with e1 | hq
      · subst e1
        intro e2
        have e2 : y = z := e2
        subst e2
        simp at e
      · exact lookup_no h q hq
theorem tab_keys {P : Params} : ∀ {l : List DictEntry} {ks : List Str}, l.map He.keyOf = He.keysIn P ks → ∀ e ∈ l, ∃ k t, e.key = .str k t ∧ k ∈ ks
  | [], _, _, e, he => by cases he
  | e0 :: r, [], h, _, _ => by cases h
  | e0 :: r, k :: ks, h, e, he => by
    have h1 : He.keyOf e0 :: r.map He.keyOf = some (k, PyData.keyHash P k) :: He.keysIn P ks := h
    injection h1 with h2 h3
    rcases List.mem_cons.mp he with e1 | he
    · subst e1
      unfold He.keyOf at h2
      split at h2
      · rename_i x t q
        have h4 := Option.some.inj h2
        obtain ⟨h5, h6⟩ := Prod.mk.inj h4
        exact ⟨x, t, q, by rw [h5]; exact List.mem_cons_self⟩
      · cases h2
    · obtain ⟨k1, t, e1, m⟩ := tab_keys h3 e he
      exact ⟨k1, t, e1, List.mem_cons_of_mem _ m⟩
theorem tab_ok {K : Frag} {w : World} {mg : Str → Option Value} {x : Str} {tab : List (String × Int)} (hraw : He.dicW K (He.ga K x) = some (He.keysIn w.params (tab.map fun q => Str.ofString q.1))) (hv : He.valsB K (He.ga K x) (tab.map fun q => (Str.ofString q.1, He.Dv.int q.2)) = true) (hg : mg x = some (.ref (He.ga K x))) : TabOk K w mg x tab := by
  obtain ⟨es, n, D⟩ := He.dicW_ok hraw
  refine ⟨_, es, n, hg, D, fun z => ?_⟩
  cases e : tab.lookup z with
  | some i =>
    have m := lookup_mem e
    obtain ⟨u, h1, h2⟩ := He.valsB_ok hv (q := (Str.ofString z, He.Dv.int i)) (List.mem_map.mpr ⟨_, m, rfl⟩)
    refine ⟨_, h1, (fun q => nomatch q), fun j q => ?_⟩
    cases q
    obtain ⟨t, rfl⟩ := (show ∃ t, u = Value.int i t from h2)
    exact ⟨t, rfl⟩
  | none =>
    have no := lookup_no e
    have ks : es.toList.map He.keyOf = He.keysIn w.params (tab.map fun q => Str.ofString q.1) := by
      unfold He.dicW at hraw
      rw [D.at_] at hraw
      have low := D.low
      simp only [low, decide_true, Bool.true_and, Bool.not_false, Bool.and_true] at hraw
      simpa using hraw
    refine ⟨none, ?_, fun _ => rfl, fun j q => nomatch q⟩
    unfold PySem.W.nsIn
    rw [D.at_]
    have ef : es.toList.find? (·.key.isStr (Str.ofString z)) = none := by
      rw [List.find?_eq_none]
      intro ent hent h
      obtain ⟨k, t, e1, m⟩ := tab_keys ks ent hent
      rw [e1] at h
      obtain ⟨q, hq, e2⟩ := List.mem_map.mp m
      have e3 : k = Str.ofString z := by simpa [Value.isStr] using h
      exact no q hq (ofS_inj (e2.trans e3))
    have er : es.toList.any (·.refKey) = false := by
      rw [List.any_eq_false]
      intro ent hent h
      obtain ⟨k, t, e1, m⟩ := tab_keys ks ent hent
      simp [DictEntry.refKey, e1] at h
    simp only [ef, er]
    rfl
section
variable {X : Cx} {W : WX} {ow : Ow} {a : Expr} {ma : EM} {pos p : Pos} {tab : List (String × Int)} {nm : Str}
theorem t_nothas (T : TabOk X.K X.w X.mg nm tab) (hg : Gl X nm) (ha : PE X a (tE X.K W ow ma)) (hm : behindInMarks .NotIn (.Name nm p) = false := by rfl) (hd : (nm == ("__debug__" : Str)) = false := by decide) : PT X (.Compare a [.NotIn] [.Name nm p] pos) (tT X.K W ow (tst (un (onothas tab) ma))) := by
  obtain ⟨d, es, n, h1, h2, h3⟩ := T
  refine PT.of (pt_cmpR (op_notIn_kd h2) ha (pe_glob (v := .ref d) hg h1 rfl hd) hm) fun σ H Q ⟨A, H0, O, en, R, q⟩ => ⟨A, H0, O, en, R, (Out.bind (Out.bind q)).good fun d1 q1 v1 H1 s1 r1 => ?_⟩
  cases d1 with
  | str z =>
    obtain ⟨r, e, k1, k2⟩ := h3 z
    refine ⟨_, r, r1, rfl, e, _, rfl, ?_⟩
    have e2 : r.isSome = (tab.lookup z).isSome := by
      cases e3 : tab.lookup z with
      | none => rw [k1 e3] <;> rfl
      | some i =>
        obtain ⟨t, e4⟩ := k2 i e3
        rw [e4] <;> rfl
    rw [e2]
    exact q1 _ s1
  | _ => exact q1.elim
theorem x_look (T : TabOk X.K X.w X.mg nm tab) (hg : Gl X nm) (ha : PE X a (tE X.K W ow ma)) (hs : PlainIx a := by exact fun _ _ => rfl) (hd : (nm == ("__debug__" : Str)) = false := by decide) : PE X (.Subscript (.Name nm p) a pos) (tE X.K W ow (un (olook tab) ma)) := by
  obtain ⟨d, es, n, h1, h2, h3⟩ := T
  refine PE.of (pe_ix ix_kdict (pe_glob (v := .ref d) hg h1 rfl hd) ha hs) fun σ H Q ⟨A, H0, O, en, R, q⟩ => ?_
  refine (⟨A, H0, O, en, R, (Out.bind q).good fun d1 q1 v1 H1 s1 r1 => ?_⟩ : tE X.K W ow ma σ H _)
  cases d1 with
  | str z =>
    obtain ⟨r, e, k1, k2⟩ := h3 z
    cases e3 : tab.lookup z with
    | none =>
      simp only [olook, e3, opt, Option.map_none] at q1
      exact q1.elim
    | some i =>
      obtain ⟨t, e4⟩ := k2 i e3
      subst e4
      simp only [olook, e3, opt, Option.map_some] at q1
      exact ⟨d, Str.ofString z, .int i, rfl, r1, ⟨es, n, _, h2.at_, h2.lit, e, ⟨t, rfl⟩⟩, q1 _ _ s1 (flat_rep (d := .int i) rfl _ _)⟩
  | _ => exact q1.elim
end
/-! ### append -/
theorem s_app1 {fr : Rm} {X : Cx} {W : WX} {ow : Ow} {i : Nat} {o e : Expr} {m : EM} {apos cpos pos : Pos} (ho : PE X o (tVar i)) (h : PE X e (tE X.K W ow m)) (hi : ow i = true)
    (hbase : attributeBase o "append" X.env (eval o X.env) = eval o X.env := by rfl)
    (hfew : ((backTo cpos (starEach [e] X.env)).all (fun x => !x.1) && (backToKw cpos (keywordEach [] X.env)).all (fun x => x.1.isSome)
      && decide (([e] : List Expr).length + ([] : List Keyword).length + (if ([] : List Keyword).isEmpty then 0 else 1) < 30)) = true := by rfl)
    (hline : (apos.endLine == cpos.line) = true := by rfl) (hs : starEach [e] X.env = [(false, eval e X.env)] := by rfl)
    (hsw : swapsWith (.Call (.Attribute o "append" apos) [e] [] cpos) none pos.line X.env = pure false := by rfl) :
    PS X (.Expr (.Call (.Attribute o "append" apos) [e] [] cpos) pos) (tS fr X.K W ow (app i m)) :=
  s_app (ps_expr (pe_bm PySem.F.plainAttrs_list PySem.F.slot_list_append PySem.F.type_list_append mt_append ho (pa_cons h pa_nil hs) hbase hfew hline hs (by rfl)) hsw) hi
/-! ### code that is not reached -/
/-! ### the law -/
end Py
/-! What a head tells, in one place; the law's end. -/
namespace Py
open PySem L2
open He (Fa DefD Tab)
theorem Ctx.eq {X : Cx} {W : WX} {k : Nat} (T : Ctx X W k) : OpR X (compareOp .Eq) (r2 X.K oeq) := y_eq (by have := T.hr.un; omega)
theorem Ctx.ne {X : Cx} {W : WX} {k : Nat} (T : Ctx X W k) : OpR X (compareOp .NotEq) (r2 X.K one) := y_ne (by have := T.hr.un; omega)
theorem ss_dead {fr : Rm} {X : Cx} {W : WX} {ow : Ow} {st : List Stmt} : PSs X st (tS fr X.K W ow dead) := ⟨fun pins s σ H D I ⟨A, H0, O, en, R, q⟩ => (q : False).elim⟩
theorem hv_len : bootBuiltins "len" = some (.builtin "len") := by decide +kernel
theorem hv_all : bootBuiltins "all" = some (.builtin "all") := by decide +kernel
theorem hv_max : bootBuiltins "max" = some (.builtin "max") := by decide +kernel
theorem hv_min : bootBuiltins "min" = some (.builtin "min") := by decide +kernel
theorem hv_int : bootBuiltins "int" = some (.type "int") := by decide +kernel
theorem hv_tuple : bootBuiltins "tuple" = some (.type "tuple") := by decide +kernel
theorem hv_list : bootBuiltins "list" = some (.type "list") := by decide +kernel
theorem hv_bool : bootBuiltins "bool" = some (.type "bool") := by decide +kernel
theorem hv_str : bootBuiltins "str" = some (.type "str") := by decide +kernel
theorem h_iadd {K : Frag} : ∀ x y H Q, r2 K oiadd x y H Q → ipI (fun i j => i + j) x y H Q := fun x y H Q ⟨A, d1, d2, d, h1, h2, _, e, k⟩ => by
  cases d1 <;> cases d2 <;> simp only [oiadd, Res.ok.injEq, reduceCtorEq] at e
  subst e
  exact ⟨_, _, h1, h2, k _ H (Same.refl H) (flat_rep (d := .int _) rfl _ _)⟩
theorem n_iadd : NoEx2 oiadd := fun x y c fs => by cases x <;> cases y <;> rfl
/-! ### the list objects left out -/
theorem klookup_mem {a : Addr} {o : Obj} : ∀ {l : List (Addr × Obj)}, l.lookup a = some o → (a, o) ∈ l
  | [], h => by cases h
  | (b, u) :: r, h => by
    rw [List.lookup_cons] at h
    split at h
    · rename_i e
      have e1 : a = b := by simpa using e
      cases h
      subst e1
      exact List.mem_cons_self
    · exact List.mem_cons_of_mem _ (klookup_mem h)
theorem sqL_rd {K : Frag} (h : noL K = true) {H : Hp} {a : Addr} {vs : List V} (q : SqL K H a vs) : Rd H a (.lst vs) := by
  rcases q with q | ⟨o, its, n, hk, hc, _⟩
  · exact q
  · have m := List.all_eq_true.mp h _ (klookup_mem hk)
    simp [notList, hc] at m
/-! ### facts -/
structure Facts (fa : List Fa) (fn : List DefD) (ts : List Tab) (ms : List (Frag → Bool)) (w : World) (K : Frag) (mg : Str → Option Value) : Prop where
  c : He.SaysT fa fn ts w K
  m : (noL K && ms.all fun m => m K) = true
  h : ∃ h : Heap, K.In h ∧ h.Ns mainGlobals mg
section
variable {fa : List Fa} {fn : List DefD} {ts : List Tab} {ms : List (Frag → Bool)} {w : World} {K : Frag} {mg : Str → Option Value}
theorem Facts.glo (Y : Facts fa fn ts ms w K mg) (i : Nat) {x : Str} (h : fa[i]? = some (.glo x) := by rfl) : mg x = some (.ref (He.ga K x)) := by
  obtain ⟨_, KX, G⟩ := Y.h
  exact He.glo_ok KX G (Y.c.d.fact i h)
theorem Facts.free (Y : Facts fa fn ts ms w K mg) (i : Nat) {x : Str} (h : fa[i]? = some (.free x) := by rfl) : mg x = none := by
  obtain ⟨_, KX, G⟩ := Y.h
  exact He.free_ok KX G (Y.c.d.fact i h)
theorem Facts.mkr (Y : Facts fa fn ts ms w K mg) (i : Nat) {x : String} (h : fa[i]? = some (.mkr (Str.ofString x)) := by rfl) : Mk K (ca K x) (He.ma K (ca K x) "__init__") := He.mkr_ok (Y.c.d.fact i h)
theorem Facts.def_ (Y : Facts fa fn ts ms w K mg) (i : Nat) {d : DefD} (h : fn[i]? = some d := by rfl) : ∃ fd, FunD K d.name d.qual d.params d.body d.scope (d.dvs K) (d.kws K) (He.fAd K d.at_) fd := Y.c.d.def_ i h
theorem Facts.more (Y : Facts fa fn ts ms w K mg) (i : Nat) {m : Frag → Bool} (h : ms[i]? = some m := by rfl) : m K = true := by
  have q := Y.m
  rw [Bool.and_eq_true] at q
  exact List.all_eq_true.mp q.2 m (List.mem_of_getElem? h)
theorem Facts.noL (Y : Facts fa fn ts ms w K mg) : noL K = true := by
  have q := Y.m
  rw [Bool.and_eq_true] at q
  exact q.1
theorem att_ok {cs : List String} {f : String} (h : attB cs f K = true) : ∀ c ∈ cs, Cls K (ca K c) ∧ NoAttr K (ca K c) (Str.ofString f) := fun c hc => by
  have q := List.all_eq_true.mp h c hc
  rw [Bool.and_eq_true] at q
  exact ⟨He.cls_ok q.1, He.noat_ok q.2⟩
theorem Facts.tab (Y : Facts fa fn ts ms w K mg) {x : String} {tab : List (String × Int)} (i j k : Nat) (h1 : ts[i]? = some (tabT x tab) := by rfl) (h2 : ms[j]? = some (tabB x tab) := by rfl) (h3 : fa[k]? = some (.glo (Str.ofString x)) := by rfl) : TabOk K w mg (Str.ofString x) tab := by
  refine tab_ok ?_ (Y.more j h2) (Y.glo k h3)
  have e : ts.map (fun t => He.dicW K (t.1 K)) = ts.map fun t => some (He.keysIn w.params t.2) := congrArg (fun z : He.AlT => z.2) Y.c
  have e2 : (ts.map fun t => He.dicW K (t.1 K))[i]? = (ts.map fun t => some (He.keysIn w.params t.2))[i]? := by rw [e]
  rw [List.getElem?_map, List.getElem?_map, h1] at e2
  exact Option.some.inj e2
end
/-! ### the law's def -/
section
variable {P : Program} {w : World} {K : Frag} {mg : Str → Option Value} {k : Nat} {ow oN oB : Ow} {m : SM} {qual : Str} {params : Arguments} {body : List Stmt} {scope : Scope} {f : Addr} {N : List Str} {n : Nat}
theorem law_ok (F : ∃ fd, FunD K "law" qual params body scope [] [] f fd) (S : FnScope N ["script"] scope) (hnl : N.length = n) (hp : ow 0 = false)
    (hbind : ∀ (kV doc pm : Value) (an : Option Addr) (cdv ct : Value) (us : List Value), us.length = 1 → bindArgs (PySem.W.fnOf "law" qual params body scope .none kV doc pm an cdv ct) ⟨us, []⟩ = pure ((["script"] : List Str).zip us))
    (hb : ∀ (base : Heap) (cdv : Value) (A : Around) (outer : List PySem.Env) (s : Shared) (H : Hp) (E : XK), Ctx (cxOf (L2N.CX P w) P w K mg base N qual scope f cdv A outer s H E) (WD E) k →
      PSs (cxOf (L2N.CX P w) P w K mg base N qual scope f cdv A outer s H E) body (tS3 .val K (WD E) ow oN oB m)) (hx : ow.x = none := by rfl) :
    ∃ fd : FuncData, (∀ (s : Shared) (u : Value), BindsTo s fd ⟨[u], []⟩ [("script", u)]) ∧ ∀ base : Heap, FnOk P w K mg base (L2N.CX P w) (k + 1) f fd ["script"] (spM K 1 (fn 1 n m)) := by
  obtain ⟨fd, F⟩ := F
  subst hnl
  have b := FunD.bindsA (ps := ["script"]) F hbind
  exact ⟨fd, fun s v => b s [v] rfl, fun base => fn_ok F S hx (fun i hi => by
    have : i = 0 := by simpa using hi
    subst this
    exact hp) (hb base)⟩
theorem ints_rep {K : Frag} {A : AS} {H : Hp} : ∀ ns : List Int, RepL K A H (ns.map D.int) (ns.map V.int)
  | [] => by simp [RepL]
  | n :: ns => by
    simp only [List.map_cons, RepL]
    exact ⟨_, _, rfl, rfl, ints_rep ns⟩
/-- what escapes nothing can be handed out -/
theorem cx_none {P : Program} {w : World} {H : Hp} {s : Shared} {e : Value} {s' : Shared} (h : L2N.CX P w [] H s (fun _ _ _ => False) e s') : False := by
  obtain ⟨a, B, H', cls, d, rfl, fl, hok, ub, na, os, ag, hE⟩ := h
  exact hE
open PyProof.Rows in
theorem walk_ofW {l : PySem.W.OpenLaw} {n k : Nat} {q : Program} {loose : List Str} {XP : (Str → Option Value) → Heap → Prop} {YP : World → Heap → Prop} {d : DefRec} {CX : World → CXT} {x : Str}
    (hn : l.most = some n) (hn2 : n ≤ sizeLine) (hdf : d.params.defaults = []) (hr : Room k callerA)
    (F : ∀ (w : World) (mg : Str → Option Value) (fa : Addr) (h : Heap), YP w h → h.Ns mainGlobals mg → mg d.name = some (.ref fa) →
      ∃ (K : PySem.W.Frag) (fd : FuncData) (sp : Sp), K.In h ∧ (∀ (s : Shared) (u : Value), BindsTo s fd ⟨[u], []⟩ [(x, u)]) ∧
        (∀ (H : Hp) (a : Addr) (ns : List Int), ns.length ≤ n → Only H → SqL K H a (ns.map V.int) → sp [.ref a] H (fun v _ => v = .bl true) fun _ _ _ => False) ∧
        ∀ base : Heap, K.In base → base.Ns mainGlobals mg → FnOk l.prog w K mg base (CX w) k fa fd [x] sp)
    (hCX : ∀ (w : World) (H : Hp) (s : Shared) (e : Value) (s' : Shared), CX w [] H s (fun _ _ _ => False) e s' → False) :
    PySem.W.WalkO q loose XP YP l.row.toRowW d [] (fun f vs => PySem.call f vs) := by
  refine Att.attach_call hn hdf fun w s₀ s₁ mg mb fa o pm cd doc a vs ns G Y ho hd hcd hmg hobj hints hlen hg => ?_
  obtain ⟨K, fd, sp, KX, hb, hsp, hF⟩ := F w mg fa _ Y G.T.g hmg
  exact law_call KX G.T.g G.T.b G.T.builtins G.T.nolimit hg hobj hints (Nat.le_trans hlen hn2) hr hF hb (fun H hO hS => hsp H a ns hlen hO hS) fun H e s' => hCX w H s₁ e s'
end
end Py
/-! Methods of own classes, zip, constants of the module, |=. -/
namespace Py
open PySem L2
open He (Fa DefD Tab)
/-! ### methods -/
section
variable {fa : List Fa} {fn : List DefD} {ts : List Tab} {ms : List (Frag → Bool)} {w : World} {K : Frag} {mg : Str → Option Value}
theorem Facts.cls (Y : Facts fa fn ts ms w K mg) (i : Nat) {x : String} (h : fa[i]? = some (.cls (Str.ofString x)) := by rfl) : Cls K (ca K x) := He.cls_ok (Y.c.d.fact i h)
theorem Facts.int (Y : Facts fa fn ts ms w K mg) (i : Nat) {x : Str} {z : Int} (h : fa[i]? = some (.int x z) := by rfl) : ∃ t, mg x = some (.int z t) := by
  obtain ⟨_, KX, G⟩ := Y.h
  exact He.int_ok KX G (Y.c.d.fact i h)
theorem Facts.str (Y : Facts fa fn ts ms w K mg) (i : Nat) {x z : Str} (h : fa[i]? = some (.str x z) := by rfl) : ∃ t, mg x = some (.str z t) := by
  obtain ⟨_, KX, G⟩ := Y.h
  exact He.str_ok KX G (Y.c.d.fact i h)
end
section
variable {X : Cx} {W : WX} {ow : Ow} {x : Str} {pos : Pos}
theorem x_gint {i : Int} (hg : Gl X x) (hm : ∃ t, X.mg x = some (.int i t)) (hd : (x == ("__debug__" : Str)) = false := by decide) : PE X (.Name x pos) (tE X.K W ow (cst (.int i))) := by
  obtain ⟨t, hm⟩ := hm
  exact x_cst (v := .int i) (pe_glob hg hm ⟨t, rfl⟩ hd) rfl
theorem x_gstr {s : String} (hg : Gl X x) (hm : ∃ t, X.mg x = some (.str (Str.ofString s) t)) (hd : (x == ("__debug__" : Str)) = false := by decide) : PE X (.Name x pos) (tE X.K W ow (cst (.str s))) := by
  obtain ⟨t, hm⟩ := hm
  exact x_cst (v := .str (Str.ofString s)) (pe_glob hg hm ⟨t, rfl⟩ hd) rfl
end
/-! ### another name of a def -/
/-! ### zip -/
/-! ### x |= y -/
end Py
namespace Py
open PySem PySem.Spec PyProof.Rows L2
/-! ### zip over any two of lists and tuples: k = true: a tuple -/
def IAt (k : Bool) (h : Heap) (it l : Addr) (i : Nat) : Prop := match k with | true => h.IsTupleIter it l i | false => h.IsListIter it l i
def SAt (k : Bool) (h : Heap) (l : Addr) (xs : Array Value) : Prop := match k with | true => h.IsTuple l xs | false => h.IsList l xs
theorem IAt.some {k : Bool} {h : Heap} {it l : Addr} {i : Nat} (x : IAt k h it l i) : ∃ o, h.get? it = some o ∧ ∀ v, o.data ≠ .cell v := by
  cases k with
  | true => obtain ⟨o, ho, _, d⟩ := x; exact ⟨o, ho, fun v q => by rw [d] at q; cases q⟩
  | false => obtain ⟨o, ho, _, d⟩ := x; exact ⟨o, ho, fun v q => by rw [d] at q; cases q⟩
/-! the turn -/
def SqK (k : Bool) (K : Frag) (H : Hp) (a : Addr) (xs : List V) : Prop := match k with | true => SqT K H a xs | false => SqL K H a xs
theorem SqK.at {k : Bool} {X : Cx} {pins : List (Addr × Obj)} {σ : L2.St} {H : Hp} {s : Shared} {a : Addr} {xs : List V} (I : Inv X pins σ H s) (q : SqK k X.K H a xs) : ∃ its, Vals xs its ∧ SAt k s.heap a its.toArray ∧ a < s.heap.objs.size := by
  cases k with
  | true =>
    obtain ⟨its, r, p, _⟩ := I.tuple q
    obtain ⟨o, ho, _⟩ := id p
    exact ⟨its, r, p, Heap.lt_size ho⟩
  | false =>
    obtain ⟨its, r, p, _⟩ := I.list q
    exact ⟨its, r, p.isList, p.lt⟩
theorem SqK.inj {k : Bool} {X : Cx} {pins : List (Addr × Obj)} {σ : L2.St} {H : Hp} {s : Shared} {a : Addr} {xs ys : List V} (I : Inv X pins σ H s) (q : SqK k X.K H a xs) (q' : SqK k X.K H a ys) : xs = ys := by
  cases k with
  | true => exact I.tuple_inj q q'
  | false => exact I.list_inj q q'
/-! ### zip in the mirror -/
end Py
/-! Who owns what, statement by statement. -/
namespace Py
open PySem L2
/-- the names that own what they hold -/
def ownS : List Nat → Nat → Bool
  | [], _ => false
  | j :: l, i => i == j || ownS l i
theorem owS_mem : ∀ {l : List Nat} {i : Nat}, ownS l i = true → i ∈ l
  | j :: l, i, h => by
    unfold ownS at h
    rw [Bool.or_eq_true] at h
    rcases h with h | h
    · exact List.mem_cons.mpr (.inl (by simpa using h))
    · exact List.mem_cons_of_mem _ (owS_mem h)
theorem owS_le {l l' : List Nat} (h : (l'.all fun i => ownS l i) = true) : ∀ i, ownS l' i = true → ownS l i = true := fun i hi => List.all_eq_true.mp h i (owS_mem hi)
theorem owS_add {l l' : List Nat} {i : Nat} (h : (l'.all fun j => j == i || ownS l j) = true ∧ ownS l' i = true ∧ (l.all fun j => ownS l' j) = true) : ∀ j, ownS l' j = (j == i || ownS l j) := fun j => by
  obtain ⟨h1, h2, h3⟩ := h
  cases e : ownS l' j with
  | true => exact (List.all_eq_true.mp h1 j (owS_mem e)).symm
  | false =>
    cases e2 : (j == i || ownS l j) with
    | false => rfl
    | true =>
      rw [Bool.or_eq_true] at e2
      rcases e2 with e2 | e2
      · rw [show j = i by simpa using e2, h2] at e
        cases e
      · rw [List.all_eq_true.mp h3 j (owS_mem e2)] at e
        cases e
abbrev owS (l : List Nat) : Ow := ⟨ownS l, none⟩
/-- .. while an error is held -/
abbrev Ow.hold (o : Ow) (i : Nat) (a da : Addr) (fs : List (String × D)) : Ow := ⟨fun j => j == i || o j, some ⟨i, a, da, fs⟩⟩
/-- the new owners know no more of an error -/
def XLe (o1 o : Ow) : Prop := o1.x = none ∨ (o1.x = o.x ∧ ∀ q, o1.x = some q → o q.i = true → o1 q.i = true)
theorem XLe.refl {o : Ow} : XLe o o := .inr ⟨rfl, fun _ _ z => z⟩
theorem XFact.cut {K : Frag} {A : AS} {H : Hp} {σ : L2.St} {e : Env} {o o1 : Ow} (h : XFact K A H σ e o) (l : XLe o1 o) : XFact K A H σ e o1 := fun q hq => by
  rcases l with l | ⟨l1, l2⟩
  · rw [l] at hq
    cases hq
  · obtain ⟨h1, h2, h3, h4⟩ := h q (l1 ▸ hq)
    exact ⟨l2 q hq h1, h2, h3, h4⟩
section
variable {fr : Rm} {K : Frag} {A : AS} {H0 : Base} {ow o1 oN oB : Ow} {O : OW} {σ : L2.St} {H H' : Hp} {e : Env}
def cutO (ow o1 : Ow) (O : OW) : OW := fun i => if ow i = true ∧ o1 i = false then none else O i
theorem cutO_some {i : Nat} {a : Addr} (h : cutO ow o1 O i = some a) : O i = some a := by
  unfold cutO at h
  split at h
  · cases h
  · exact h
theorem cut_less : ∀ a, AO A (cutO ow o1 O) a → AO A O a := fun a h => h.elim .inl fun ⟨i, q⟩ => .inr ⟨i, cutO_some q⟩
/-- some names give up what they own -/
theorem ER.part (R : ER K A H0 ow O σ H e) (h : ∀ i, o1 i = true → ow i = true) (h0 : ow 0 = true → o1 0 = true) (hx : XLe o1 ow) : ER K A H0 o1 (cutO ow o1 O) σ H e := by
  have mv : Mv (AO A O) H (AO A (cutO ow o1 O)) H := Mv.less cut_less
  have stay : ∀ i, o1 i = true → cutO ow o1 O i = O i := fun i hi => by
    unfold cutO
    rw [if_neg]
    rintro ⟨_, z⟩
    rw [hi] at z
    cases z
  refine ⟨R.len, R.a0, R.same, fun i d h1 h2 => ?_, fun i d h1 h2 => ?_, fun i a q => R.fresh i a (cutO_some q), fun i j a q q' => R.inj i j a (cutO_some q) (cutO_some q'), fun a q => ?_, (R.exq.heap mv fun _ _ e => e).cut hx⟩
  · cases hi : ow i with
    | false =>
      obtain ⟨v, q, r⟩ := R.vals i d h1 hi
      exact ⟨v, q, Rep.move mv _ _ r⟩
    | true =>
      obtain ⟨a, q, q2, r⟩ := R.owns i d h1 hi
      refine ⟨.ref a, q2, ?_⟩
      have na : ¬ AO A (cutO ow o1 O) a := by
        rintro (z | ⟨j, z⟩)
        · exact (R.fresh i a q).2.2 z
        · have e1 := R.inj i j a q (cutO_some z)
          subst e1
          unfold cutO at z
          rw [if_pos ⟨hi, h2⟩] at z
          cases z
      exact r.rep mv na
  · obtain ⟨a, q, q2, r⟩ := R.owns i d h1 (h i h2)
    exact ⟨a, (stay i h2).trans q, q2, r.move mv rfl⟩
  · have q0 := R.pin a q
    unfold cutO
    rw [if_neg]
    · exact q0
    · rintro ⟨z1, z2⟩
      rw [h0 z1] at z2
      cases z2
/-- a name is to own what comes next -/
theorem ER.opens (R : ER K A H0 ow O σ H e) {i : Nat} (hi : ow i = false) (hN : ∀ j, oN j = (j == i || ow j)) (hx : XLe oN ow) : ER K A H0 oN O σ H (e.set i none) := by
  have other : ∀ j d, (e.set i none)[j]? = some (some d) → i ≠ j ∧ e[j]? = some (some d) := fun j d h => by
    by_cases hj : i = j
    · subst hj
      have hl : i < e.length := by
        have := (List.getElem?_eq_some_iff.mp h).1
        simpa using this
      rw [List.getElem?_set_self hl] at h
      cases h
    · rw [List.getElem?_set_ne hj] at h
      exact ⟨hj, h⟩
  refine ⟨by simp [R.len], R.a0, R.same, fun j d h1 h2 => ?_, fun j d h1 h2 => ?_, R.fresh, R.inj, R.pin, (R.exq.move Mv.refl (fun _ _ e => e) fun j hj n => ?_).cut hx⟩
  rotate_right
  · have hne : i ≠ j := fun z => by
      rw [z, hj] at hi
      cases hi
    rw [List.getElem?_set_ne hne]
    exact ⟨rfl, n⟩
  · obtain ⟨hj, h3⟩ := other j d h1
    rw [hN, show (j == i) = false by simpa using fun z => hj z.symm, Bool.false_or] at h2
    exact R.vals j d h3 h2
  · obtain ⟨hj, h3⟩ := other j d h1
    rw [hN, show (j == i) = false by simpa using fun z => hj z.symm, Bool.false_or] at h2
    exact R.owns j d h3 h2
theorem EndOk3.le {o1 oB1 : Ow} {D : Ends} (hN : ∀ i, oN i = true → o1 i = true) (hN0 : o1 0 = true → oN 0 = true) (hB : ∀ i, oB i = true → oB1 i = true) (hB0 : oB1 0 = true → oB 0 = true) (hNx : XLe oN o1) (hBx : XLe oB oB1) : ∀ {f : Fl}, EndOk3 fr K A H0 oN oB O H D f → EndOk3 fr K A H0 o1 oB1 O H D f
  | .next _, h => fun O' σ' H' R n => h _ σ' H' (R.part hN hN0 hNx) (n.trans (Mv.less cut_less))
  | .ret _, h => h
  | .brk _, h => fun O' σ' H' R n => h _ σ' H' (R.part hB hB0 hBx) (n.trans (Mv.less cut_less))
  | .cnt _, h => fun O' σ' H' R n => h _ σ' H' (R.part hB hB0 hBx) (n.trans (Mv.less cut_less))
end
section
variable {fr : Rm} {X : Cx} {W : WX} {ow o1 oN oB : Ow} {a b c e : Expr} {es : List Expr} {m ma mb mc : EM} {st : Stmt} {rest body orelse : List Stmt} {u v : SM} {t : TM} {pos : Pos} {j : Nat}
/-- a statement that changes no owner -/
theorem s_up (h : PS X st (tS fr X.K W ow u)) (hB : ∀ i, oB i = true → ow i = true) (hB0 : ow 0 = true → oB 0 = true) (hx : XLe oB ow := by first | exact Or.inl rfl | exact XLe.refl | exact Or.inr ⟨rfl, by intro q z; cases z; intro _; rfl⟩) : PS X st (tS3 fr X.K W ow ow oB u) :=
  PS.of h fun D σ H ⟨A, H0, O, en, R, q⟩ => ⟨A, H0, O, en, R, q.good fun f q1 => q1.le (fun _ z => z) (fun z => z) hB hB0 XLe.refl hx⟩
theorem c_nil : PSs X [] (tS3 fr X.K W ow ow oB skip) := PSs.of pss_nil fun D σ H ⟨A, H0, O, en, R, q⟩ => q O σ H R Mv.refl
theorem c_one (h : PS X st (tS3 fr X.K W ow oN oB u)) : PSs X [st] (tS3 fr X.K W ow oN oB u) := pss_one h
theorem c_cons (h : PS X st (tS3 fr X.K W ow o1 oB u)) (k : PSs X rest (tS3 fr X.K W o1 oN oB v)) : PSs X (st :: rest) (tS3 fr X.K W ow oN oB (seq u v)) :=
  PSs.of (pss_cons h k) fun D σ H ⟨A, H0, O, en, R, q⟩ => ⟨A, H0, O, en, R, (Out.bind q).good fun f q1 => by
    cases f with
    | next e' => exact fun O' σ' H' R' mv => ⟨A, H0, O', e', R', q1.good fun f q2 => q2.to mv⟩
    | ret d => exact q1
    | brk e' => exact q1
    | cnt e' => exact q1⟩
/-- names give up what they own -/
theorem c_cut (h : PSs X rest (tS3 fr X.K W o1 oN oB v)) (h1 : ∀ i, o1 i = true → ow i = true) (h0 : ow 0 = true → o1 0 = true) (hx : XLe o1 ow := by first | exact Or.inl rfl | exact XLe.refl | exact Or.inr ⟨rfl, by intro q z; cases z; intro _; rfl⟩) : PSs X rest (tS3 fr X.K W ow oN oB v) :=
  PSs.of h fun D σ H ⟨A, H0, O, en, R, q⟩ => ⟨A, H0, _, en, R.part h1 h0 hx, q.good fun f q1 => q1.to (Mv.less cut_less)⟩
theorem c_end (h : PS X st (tS3 fr X.K W ow o1 oB u)) (h1 : ∀ i, oN i = true → o1 i = true) (h0 : o1 0 = true → oN 0 = true) (hx : XLe oN o1 := by first | exact Or.inl rfl | exact XLe.refl | exact Or.inr ⟨rfl, by intro q z; cases z; intro _; rfl⟩) : PS X st (tS3 fr X.K W ow oN oB u) :=
  PS.of h fun D σ H ⟨A, H0, O, en, R, q⟩ => ⟨A, H0, O, en, R, q.good fun f q1 => q1.le h1 h0 (fun _ z => z) (fun z => z) hx XLe.refl⟩
/-- a name gets a new object of its own -/
theorem c_own {i : Nat} (h : PS X st (tAsg (tF X.K W ow m) (gName i))) (hi : ow i = false) (hN : ∀ j, oN j = (j == i || ow j)) (h0 : 0 < i := by decide) (hx : XLe oN ow := by first | exact Or.inl rfl | exact XLe.refl | exact Or.inr ⟨rfl, by intro q z; cases z; intro _; rfl⟩) : PS X st (tS3 fr X.K W ow oN oB (asg (gnm i) m)) :=
  PS.of h fun D σ H ⟨A, H0, O, en, R, q⟩ => ⟨A, H0, O, en, R, ((Out.bind q).se R).good fun d q1 a H1 n s1 r1 => by
    have hNi : oN i = true := by rw [hN]; simp
    have hxi : ∀ q, oN.x = some q → q.i ≠ i := fun q hq z => by
      rcases hx with hx | ⟨hx, _⟩
      · rw [hx] at hq
        cases hq
      · have z2 := (R.exq q (hx ▸ hq)).own
        rw [z, hi] at z2
        cases z2
    obtain ⟨R2, mv⟩ := (R.opens hi hN hx).take s1 hxi hNi h0 n r1
    rw [List.set_set] at R2
    exact q1 _ _ H1 R2 mv⟩
theorem c_if (hc : PT X a (tT X.K W ow t)) (hb : PSs X body (tS3 fr X.K W ow oN oB u)) (ho : PSs X orelse (tS3 fr X.K W ow oN oB v)) : PS X (.If a body orelse pos) (tS3 fr X.K W ow oN oB (ite t u v)) :=
  PS.of (ps_if hc hb ho) fun D σ H ⟨A, H0, O, en, R, q⟩ => ⟨A, H0, O, en, R, ((Out.bind q).se R).good fun k q1 H1 s1 => by
    cases k with
    | true =>
      rw [if_pos rfl] at q1 ⊢
      exact ⟨A, H0, O, en, R.to s1, q1.good fun f q2 => q2.to (Mv.same s1)⟩
    | false =>
      rw [if_neg (by decide)] at q1 ⊢
      exact ⟨A, H0, O, en, R.to s1, q1.good fun f q2 => q2.to (Mv.same s1)⟩⟩
end
end Py
/-! Defs that give back a new list: their caller owns it. -/
namespace Py
open PySem L2
def spF (K : Frag) (p : Nat) (m : List D → Res D) : Sp := fun vs H Q E => ∃ A ds, RepL K A H ds vs ∧ ds.length = p ∧ (∀ a, A a → H a ≠ none) ∧
  Out (m ds) (fun d => (d = .non → ∀ H', Same H H' → Q .non H') ∧ ∀ a H', H a = none → Same H H' → OwnAt K (fun b => A b ∨ b = a) H' a d → Q (.ref a) H') (fun c fs => ∀ da H' fvs, Same H H' → H' da = some (.xd fvs) → RepF K A H' fs fvs → E (.ref (ca K c)) (some da) H')
theorem spF_le {K : Frag} {p : Nat} {m : List D → Res D} {vs : List V} {H : Hp} {Q : VK} {E : XK} (h : spM K p m vs H Q E) : spF K p m vs H Q E := by
  obtain ⟨A, ds, r, hl, ha, q⟩ := h
  refine ⟨A, ds, r, hl, ha, q.good fun d k => ⟨fun e H' s => ?_, fun a H' n s o => k (.ref a) H' s ?_⟩⟩
  · subst e
    exact k .non H' s rfl
  · have na : ¬ A a := fun z => ha a z n
    have mv : Mv (fun b => A b ∨ b = a) H' A H' := Mv.less fun b x => .inl x
    exact o.rep mv na
/-- the name x calls a def that gives back a new list -/
def CallF (P : Program) (w : World) (K : Frag) (mg : Str → Option Value) (base : Heap) (k : Nat) (x : Str) (d : He.DefD) (ps : List Str) (n : Nat) (fm : List D → Res D) : Prop := ∃ f fd, mg x = some (.ref f) ∧ PySem.W.keepIn K (.ref f) = true ∧ Binds K fd ps [] ∧ FnOk P w K mg base (L2N.CX P w) k f fd ps (spF K n fm) ∧ Ar n fm ∧ FunD K d.name d.qual d.params d.body d.scope [] [] f fd
theorem CallF.le {P : Program} {w : World} {K : Frag} {mg : Str → Option Value} {base : Heap} {k : Nat} {x : Str} {d : He.DefD} {ps : List Str} {n : Nat} {fm : List D → Res D} (C : CallF P w K mg base k x d ps n fm) : CallOk P w K mg base k x d ps n fm := by
  obtain ⟨f, fd, h1, h2, h3, h4, h5⟩ := C
  exact ⟨f, fd, h1, h2, h3, h4.imp fun _ _ _ _ z => spF_le z, h5⟩
end Py
/-! More expressions. -/
/-! The __init__ of an own exception: super().__init__(..), then its fields. -/
namespace Py
open PySem L2 PyProof.Rows
/-- an exception's __init__ that keeps what it is given, under these names -/
def spX (C : Addr) (n : Nat) (fs : List Str) : Sp := fun vs H Q E => ∃ a H1 ws, vs = .ref a :: ws ∧ H = upd H1 a (exo a C none) ∧ H1 a = none ∧ ws.length = n ∧
  ∀ d H2, H2 a = some (exo a C (some d)) → H2 d = some (exd d (fs.zip ws).reverse) → H1 d = none → d ≠ a → (∀ b, b ≠ a → b ≠ d → H2 b = H1 b) → Q .non H2
/-- what the written part tells of the class C whose __init__ is f -/
structure XIn (P : Program) (K : Frag) (C f cc cda : Addr) (nm qual : Str) (params : Arguments) (body : List Stmt) (scope : Scope) (fd : FuncData) : Prop where
  fn : ∃ (oc : Value) (od : Option Addr) (dV kV doc pm : Value) (an : Option Addr) (ct : Value) (osl : Array (Option Value)),
    fd = PySem.W.ksFn nm qual params body scope dV kV doc pm an (.ref cda) ct cc ∧ K.lookup f = some ⟨oc, od, .func fd, osl⟩
  cd : PySem.W.codeIn K (.ref cda) qual = true
  fl : ∃ (ccl : Value) (cdd : Option Addr) (vs : Array Value) (ccs : Array (Option Value)) (file : Str) (tf : Tok), K.lookup cda = some ⟨ccl, cdd, .fields vs, ccs⟩ ∧ vs[2]? = some (.str file tf) ∧ ((P.main.file : Str) == file) = true
  cell : ∃ (cl : Value) (cld : Option Addr) (csl : Array (Option Value)), K.lookup cc = some ⟨cl, cld, .cell (some (.ref C)), csl⟩
  T : OexC K C
  sup : PySem.W.ks_superIn K C C "__init__" = some (some (.builtin "ValueError.__init__"))
  ve : PySem.W.subIn K (.ref C) (.type "ValueError") = some true
  me : PySem.W.mroIn K C (.ref C) = some true
  thi : PySem.W.nsIn K cStatics "thirdparty.any" = some none
theorem oexC_cd {K : Frag} {C : Addr} (T : OexC K C) : ∃ (cd : ClassData) (dd : Option Addr) (sl : Array (Option Value)), PySem.W.clsIn K C = some cd ∧ K.lookup C = some ⟨.type "type", dd, .cls cd, sl⟩ := by
  obtain ⟨nm, q, N, bs, bm, sn, sub, ab, col, dd, k0, k1, k2, k3, k5, hC, hbm⟩ := T.cls
  exact ⟨_, dd, _, by unfold PySem.W.clsIn; rw [hC] <;> rfl, hC⟩
theorem hv_super : bootBuiltins "super" = some (.type "super") := by decide +kernel
section
variable {P : Program} {w : World} {K : Frag} {mg : Str → Option Value} {base : Heap} {C f cc cda : Addr} {nm qual self txt : Str} {params : Arguments} {body rest : List Stmt} {scope : Scope} {fd : FuncData} {N ps fs : List Str} {k : Nat} {ar : Arg}
theorem callWith_kxs {M : Model} {A : Around} {E : Value → Shared → Prop} {s : Shared} {i : String} {u x : Addr} {pos : Pos} {env : PySem.Env} {e : Expr} {es : List Expr} {Q : Value → Shared → Prop}
    (h : wpAny M A (spliced (backTo pos (starEach (e :: es) env))) (fun vs s₁ => PySem.W.KxsAt i u x s₁.heap ∧ wpAny M A (PySem.call (.ref u) vs) Q E s₁) E s)
    (he : starEach (e :: es) env = (false, eval e env) :: starEach es env := by rfl) (hplain : (backTo pos (starEach es env)).any (·.1) = false := by rfl) :
    wpAny M A (callWith pos (.ref u) [] (backTo pos (starEach (e :: es) env)) []) Q E s := by
  rw [he] at h ⊢
  refine PySem.W.kxs_callWith (i := i) (x := x) (by show (false || (backTo pos (starEach es env)).any (·.1)) = false; rw [hplain]; rfl) ?_
  exact PySem.Calls.evalArgs_plain h
/-- super().__init__(..) called: the object keeps its shape -/
theorem kxs_done {X : Cx} {pins : List (Addr × Obj)} {σ : L2.St} {H : Hp} {s : Shared} {A : Around} {E : Value → Shared → Prop} {u a C : Addr} {us : List Value} {Q : Value → Shared → Prop} (T : OexC X.K C) (I : Inv X pins σ H s) (e : H a = some (exo a C none)) (hu : s.heap.get? u = some (PySem.W.kxs_mw "ValueError.__init__" a))
    (hl : us.length ≤ sizeLine) (h : ∀ s', Inv X pins σ H s' → Q .none s') : wpAny (model X.prog X.w) A (PySem.call (.ref u) us) Q E s := by
  obtain ⟨nm, q, N, bs, bm, sn, sub, ab, col, dd, k0, k1, k2, k3, k5, hC, hbm⟩ := T.cls
  obtain ⟨t1, ho⟩ := exo_at I.hok e
  have hCh := I.kIn _ _ hC
  obtain ⟨hp, g, d, t, os⟩ := s
  refine wpAny_call (codeAny_of_tree ?_)
  show wpAny _ A.in1 (callAny (.ref u) ⟨us, []⟩) _ _ _
  simp only [callAny]
  refine wpAny_bind (wpAny_load hu ?_)
  simp only [PySem.W.kxs_mw, show (Value.type "method-wrapper" == Value.type "method" || Value.type "method-wrapper" == Value.type "builtin_function_or_method" || Value.type "method-wrapper" == Value.type "method-wrapper") = true by decide, if_true]
  refine PySem.W.KFB.if_so (by decide) ?_
  refine wpAny_bind (PySem.W.check_bound_init PySem.F.excBase_ValueError.toExcCallFacts hCh ho rfl ?_)
  refine wpAny_bind (wpAny_pure (wpAny_pure ?_))
  refine ⟨plainId_quiet PySem.F.excBase_ValueError.init.plain _, codeAny_builtin PySem.F.excBase_ValueError.initEntry ?_⟩
  refine PySem.W.exc_init_tree (cls := .ref C) (t0 := t1) (dv := none) (c2 := .none) (c3 := .none) (b4 := .bool false) ho hl fun h' kp hx ht => ?_
  have J := I.write (t' := t) (x := a) (e := a) (o := exo a C none) (by rw [e]; exact True.intro) (.inl rfl) kp ⟨_, hx⟩ (exo_ok hx)
  have eu : upd H a (exo a C none) = H := by
    funext b
    by_cases hb : b = a
    · rw [hb, upd_same, e]
    · rw [upd_ne hb]
  rw [eu] at J
  exact h _ J
theorem xinit_ok {n : Nat} (XI : XIn P K C f cc cda nm qual params body scope fd) (hps : ps = self :: fs) (hlen : fs.length = n) (S : NdefX.NScope N ps ["__class__"] scope) (har : (params.posonlyargs ++ params.args).head? = some ar) (hself : ar.arg = self)
    (hmg : mg "super" = none) (hsk : scope.names.lookup ("super" : Str) = some .globalImplicit) (htop : (P.main.scope.names.lookup ("super" : Str)).isSome = false)
    {p0 p1 p2 p3 p4 p5 : Pos} {j : Nat}
    (hbody : body = .Expr (.Call (.Attribute (.Call (.Name "super" p0) [] [] p1) "__init__" p2) [.Constant (.str txt) j p3] [] p4) p5 :: rest)
    {t : TS} (hb : ∀ (A : Around) (outer : List PySem.Env) (s : Shared) (H : Hp) (E : XK), PSs (NdefX.ncx (L2N.CX P w) P w K mg base N ⟨nm, qual, params, body, scope, [("__class__", cc)], cda⟩ f A outer s H E) rest t)
    (ht : ∀ (a : Addr) (ws : List V) (H1 : Hp) (D : Ends) (σ : L2.St), σ[0]? = some (some (.ref a)) → (∀ i v, ws[i]? = some v → σ[i + 1]? = some (some v)) → ws.length = n → H1 a = none →
      (∀ d H2 σ', H2 a = some (exo a C (some d)) → H2 d = some (exd d (fs.zip ws).reverse) → H1 d = none → d ≠ a → (∀ b, b ≠ a → b ≠ d → H2 b = H1 b) → D.nx σ' H2) → t D σ (upd H1 a (exo a C none)))
    (hin : ∀ (L : Addr), interactive (PySem.W.ksEnv qual scope L f (.ref cda) cc) = false := by intro _; rfl)
    (hsw : ∀ (L : Addr), swapsWith (.Call (.Attribute (.Call (.Name "super" p0) [] [] p1) "__init__" p2) [.Constant (.str txt) j p3] [] p4) none p5.line (PySem.W.ksEnv qual scope L f (.ref cda) cc) = pure false := by intro _; rfl)
    {pl : Sem Bool} (hea : ∀ (L : Addr), eval (.Call (.Attribute (.Call (.Name "super" p0) [] [] p1) "__init__" p2) [.Constant (.str txt) j p3] [] p4) (PySem.W.ksEnv qual scope L f (.ref cda) cc) = (do
      let ov ← attributeBase (.Call (.Name "super" p0) [] [] p1) "__init__" (PySem.W.ksEnv qual scope L f (.ref cda) cc) (eval (.Call (.Name "super" p0) [] [] p1) (PySem.W.ksEnv qual scope L f (.ref cda) cc))
      standAt p2.atName
      let (g, first) ← holding [ov] (getMethod ov "__init__" pl)
      callWith p4 g first (backTo p4 (starEach [.Constant (.str txt) j p3] (PySem.W.ksEnv qual scope L f (.ref cda) cc))) []) := by intro _; rfl)
    (hst : ∀ (L : Addr), starEach [.Constant (.str txt) j p3] (PySem.W.ksEnv qual scope L f (.ref cda) cc) = [(false, eval (.Constant (.str txt) j p3) (PySem.W.ksEnv qual scope L f (.ref cda) cc))] := by intro _; rfl) :
    FnOk P w K mg base (L2N.CX P w) (k + 1) f fd ps (spX C n fs) := by
  subst hps
  obtain ⟨oc, od, dV, kV, doc, pm, an, ct, osl, rfl, lk⟩ := XI.fn
  obtain ⟨ccl, cdd, cvs, ccs, file, tf, hcode, hvs, hfile⟩ := XI.fl
  obtain ⟨cl, cld, csl, hcell⟩ := XI.cell
  obtain ⟨cdC, ddC, slC, hcls, hClk⟩ := oexC_cd XI.T
  have len : ∀ vs H Q E, spX C n fs vs H Q E → vs.length = (self :: fs).length := fun vs H Q E ⟨a, H1, ws, e, _, _, l, _⟩ => by
    rw [e, List.length_cons, List.length_cons, l, hlen]
  refine ⟨len, fun A outer s H args us vs Q E hr e0 hbi r hsp => ?_⟩
  have hl := len _ _ _ _ hsp
  obtain ⟨a, H1, ws, rfl, rfl, ha, hwl, q⟩ := hsp
  have KX : K.In s.heap := e0.mod.kin.keeps fun b o e => (e0.bs b o e).1
  have lim : s.heap.NoLimit := e0.mod.nolimit.keeps fun b o e => (e0.bs b o e).1
  refine ks_codeAny_call_defAt (binds := (self :: fs).zip us) (body := body) hr.depth (KX _ _ lk) rfl lim (PySem.W.codeRec_of KX XI.cd) rfl hbi S.nocell (fun ⟨m, _⟩ hy => S.par m (List.of_mem_zip hy).1) (fun h₁ hns kp => ?_) S.co S.gen S.kind
  have hbase : K.In base := e0.mod.kin
  have hcB : base.get? cc = some ⟨cl, cld, .cell (some (.ref C)), csl⟩ := hbase _ _ hcell
  have CA : NdefX.CellsAt [("__class__", cc)] ["__class__"] [none] s.heap (upd H1 a (exo a C none)) := by
    refine ⟨rfl, fun y c e => ?_, fun x y c e1 e2 => ?_, fun i y e => ?_⟩
    · have hc : c = cc := by
        have := PySem.mem_of_lookup e
        simpa using (Prod.mk.inj (List.mem_singleton.mp this)).2
      subst hc
      exact ⟨(e0.bs _ _ hcB).2, _, _, (e0.bs _ _ hcB).1, rfl⟩
    · have h1 := (Prod.mk.inj (List.mem_singleton.mp (PySem.mem_of_lookup e1))).1
      have h2 := (Prod.mk.inj (List.mem_singleton.mp (PySem.mem_of_lookup e2))).1
      exact h1.trans h2.symm
    · cases i with
      | zero =>
        simp only [List.getElem?_cons_zero, Option.some.injEq] at e
        subst e
        exact ⟨cc, rfl, fun v z => by simp at z⟩
      | succ i => simp at e
  have I := NdefX.inv_startN (CX := L2N.CX P w) (f := f) (E := E) (F := ⟨nm, qual, params, body, scope, [("__class__", cc)], cda⟩) (tk := s.toks + ((self :: fs).zip us).length) S hr.hd e0 hl r CA hns kp
  obtain ⟨u0, us', rfl, ru0⟩ : ∃ u0 us', us = u0 :: us' ∧ L2.RelV (.ref a) u0 := by
    cases r with
    | cons r1 r2 => exact ⟨_, _, rfl, r1⟩
  obtain rfl : u0 = Value.ref a := ru0
  have hv : ((self :: fs).zip (Value.ref a :: us')).reverse.lookup self = some (.ref a) := by
    have nd : (self :: fs).Nodup := by
      have q := S.nd.sublist (List.take_sublist ((self :: fs).length + (["__class__"] : List Str).length) N)
      rw [S.pre] at q
      exact (List.nodup_append.mp q).1
    exact NdefX.zip_look (i := 0) nd rfl rfl
  have ea : (upd H1 a (exo a C none)) a = some (exo a C none) := upd_same
  subst hbody
  refine ks_wpAt_execs_cons (ks_wpAt_Expr_any (ks_wpAt_MethodCall (pl := pl) ?_ (hea _)) (hin _) (hsw _))
  refine ks_wpAt_super_base (f := f) (cc := cda) (ar := ar) hsk (S.frk _ List.mem_cons_self) rfl rfl (I.kIn _ _ lk) rfl har rfl (I.kIn _ _ hcode) rfl hvs hfile htop ?_
  obtain ⟨mb, hmb, hmb2⟩ := I.mod.blt
  refine PySem.W.ks_loadName_global S.kind hsk (PySem.Calls.loadGlobal_builtin (I.mod.glob.keeps I.bk) hmg (hmb.keeps I.bk) ((hmb2 "super" (by decide)).trans hv_super) ⟨rfl, ?_⟩)
  refine wpAny_loadName_free S.kind (S.frk _ List.mem_cons_self) rfl ⟨_, I.kIn _ _ hcell, rfl⟩ ?_
  refine wpAny_loadName_local S.kind (by rw [hself]; exact S.par _ List.mem_cons_self) hns (by rw [hself]; exact hv) ?_
  refine ks_wpAny_isType_cls (I.kIn _ _ hClk) rfl ⟨rfl, ?_⟩
  obtain ⟨t1, hat⟩ := exo_at I.hok ea
  refine ks_wpAny_call_super (I.kIn _ _ hClk) rfl hat rfl (fun c z => nomatch z) (PySem.W.looks_mroIn I.kIn XI.me) fun h2 hso kp2 => ?_
  have I2 := I.kept (t' := s.toks + ((self :: fs).zip (Value.ref a :: us')).length) kp2
  have hmr : PySem.W.Looks (model P w) h2 (mroOf (.ref C)) cdC.mro := fun A Q E s k q => wpAny_bind ((PySem.W.looks_clsIn I2.kIn hcls) A _ E s k (wpAny_pure q))
  have hsup := XI.sup
  unfold PySem.W.ks_superIn at hsup
  rw [hcls] at hsup
  have hat2 := kp2 _ _ hat
  have hIA : PySem.W.InstAt h2 a { cls := .ref C, dict := none, data := .fields #[.ref t1, .none, .none, .none, .bool false, .none] } C none := ⟨hat2, rfl, rfl, trivial⟩
  refine PySem.W.kxs_getMethod PySem.W.kxs_ValueError hso (PySem.W.looks_opaque I2.kIn XI.thi) hmr rfl I2.kIn hsup (hIA.type.andThen (PySem.W.looks_subIn I2.kIn XI.ve)) (PySem.W.ks_ne I2.kIn hIA hcls) (by decide) ?_
  have kp3 : ∀ b o, h2.get? b = some o → (h2.push (PySem.W.kxs_mw "ValueError.__init__" a)).get? b = some o := fun b o e => Heap.get?_push_of_some _ e
  have hu : (h2.push (PySem.W.kxs_mw "ValueError.__init__" a)).get? h2.objs.size = some (PySem.W.kxs_mw "ValueError.__init__" a) := Heap.get?_push_size _ rfl
  have I3 := I2.kept (t' := s.toks + ((self :: fs).zip (Value.ref a :: us')).length + 1) kp3
  have I4 := I3.pins_of (pins' := [(h2.objs.size, PySem.W.kxs_mw "ValueError.__init__" a)]) fun p hp => by
    obtain rfl := List.mem_singleton.mp hp
    exact ⟨hu, I2.hok.fresh (Nat.le_refl _), Nat.ne_of_gt I2.lt, I2.nofs (Nat.le_refl _), fun v z => nomatch z⟩
  refine callWith_kxs (i := "ValueError.__init__") (u := h2.objs.size) (x := a) ?_ (hst _) rfl
  have ha1 := (pa_cons (pe_str (x := txt) (j := j) (pos := p3)) pa_nil (hst s.heap.objs.size)).run p4 _ _ _ _ (fun vs H2 => vs.length ≤ sizeLine ∧ H2 = upd H1 a (exo a C none)) I4 ⟨by rw [sizeLine_eq]; simp, rfl⟩
  refine wpAny_mono ha1 (fun us2 s2 ⟨vs, H2, I5, r5, hl5, e5⟩ => ?_) fun e s' z => z
  subst e5
  have hu5 := (I5.pin (h2.objs.size, PySem.W.kxs_mw "ValueError.__init__" a) (List.mem_append_right _ List.mem_cons_self)).1
  refine ⟨hu5, ?_⟩
  refine kxs_done XI.T I5 ea hu5 (by rw [← r5.length]; exact hl5) fun s' I6 => ?_
  refine PySem.wpAt_of_wpAny ?_
  have I' := I6.unpinned (pins := []) 
  refine wpAny_mono ((hb A outer s (upd H1 a (exo a C none)) E).run [] _ _ _ { nx := fun _ H' => Q .non H', rt := fun _ _ => False } I' (ht a ws H1 _ _ rfl (fun i v hi => ?_) hwl ha fun d H2 σ' k1 k2 k3 k4 k5 => q d H2 k1 k2 k3 k4 k5)) (fun fl s' hs => ?_) fun e s' hs => hs
  · unfold NdefX.startF
    have hi2 := (List.getElem?_eq_some_iff.mp hi).1
    rw [List.getElem?_append_left (by simpa using hi2)]
    simp [hi]
  · cases fl with
    | next =>
      obtain ⟨σ', H', J, q⟩ := hs
      exact ⟨.non, H', J.os, J.bare, J.base, J.hok, rfl, q⟩
    | ret u =>
      obtain ⟨_, _, _, _, _, q⟩ := hs
      exact q.elim
    | brk =>
      obtain ⟨_, _, _, q⟩ := hs
      exact False.elim q
    | cont =>
      obtain ⟨_, _, _, q⟩ := hs
      exact False.elim q
end
section
variable {X : Cx} {CX : CXT} {x : Str} {C fI : Addr} {k : Nat} {fd : FuncData} {ps : List Str} {sp : Sp} {e : Expr} {es : List Expr} {ta : TA} {p pos : Pos}
/-- C(e, ..) makes an error that came out of nothing -/
theorem pmkN (T : OexC X.K C) (iC : PySem.W.findIn X.K (.ref C) "__init__" = some (some (.ref fI))) (tI : PySem.W.typeIn X.K (.ref fI) = some (.type "function"))
    (F1 : FnOk X.prog X.w X.K X.mg X.base CX k fI fd ps sp) (hr : Room (k + 1) X.A) (hb : Binds X.K fd ps []) (hx : Passes CX X (fun _ _ _ => False)) (hg : Gl X x) (hm : X.mg x = some (.ref C)) (ha : PA X (e :: es) ta)
    (hdb : (x == ("__debug__" : Str)) = false) (he : starEach (e :: es) X.env = (false, eval e X.env) :: starEach es X.env) (hpl : (backTo pos (starEach es X.env)).any (·.1) = false) :
    L2N.PMk X (.Call (.Name x p) (e :: es) [] pos) (tMkO C sp [] ta) := by
  intro pins s0 σ H Q I h
  have key : ∀ (us : List Value) (s : Shared), (∃ (vs : List V) (H1 : Hp), Inv X pins σ H1 s ∧ Vals vs us ∧ vs.length ≤ 1000 ∧ ∀ a, H1 a = none → sp (.ref a :: (vs ++ [])) (upd H1 a (exo a C none))
      (fun v H2 => v = .non ∧ ∃ (d : Addr) (fs : List (Str × V)), H2 a = some (exo a C (some d)) ∧ H2 d = some (exd d fs) ∧ H1 d = none ∧ Q (.ref C) (some d) (upd (del H2 a) d (.xd fs))) (fun _ _ _ => False)) →
      wpAny (model X.prog X.w) X.A (PySem.call (.ref C) us) (L2N.MkP X pins σ Q) X.xe s := by
    rintro us ⟨hp, g, dr, tk, os⟩ ⟨vs, H1, I1, r1, hz, q1⟩
    obtain ⟨nm, q, N, bs, bm, sn, sub, ab, col, dd, k0, k1, k2, k3, k5, hC, hbm⟩ := T.cls
    have hus : us.length ≤ sizeLine := by
      rw [← Paired.length r1, sizeLine_eq]
      omega
    have hsz : hp.objs.size ≤ hp.objs.size + 1 := Nat.le_add_right _ _
    have hq := q1 _ (I1.hok.fresh hsz)
    rw [List.append_nil] at hq
    have kk : ∀ b o, hp.get? b = some o → ((hp.push (PySem.W.kdv_tup us)).push (PySem.HandSPX.excO C hp.objs.size)).get? b = some o := fun b o z => Heap.get?_push_of_some _ (Heap.get?_push_of_some _ z)
    have new : ObjOk X.prog X.w (upd H1 (hp.objs.size + 1) (exo (hp.objs.size + 1) C none)) ((hp.push (PySem.W.kdv_tup us)).push (PySem.HandSPX.excO C hp.objs.size)) (hp.objs.size + 1) (exo (hp.objs.size + 1) C none) := exo_ok (t1 := hp.objs.size) (by heap_get)
    have I2 : Inv X pins σ _ ⟨_, g, dr, tk, os⟩ := I1.laid (t' := tk) kk hsz new
    have r2 : Vals (V.ref (hp.objs.size + 1) :: vs) (Value.ref (hp.objs.size + 1) :: us) := .cons rfl r1
    have hl2 := r2.length.symm.trans (F1.len _ _ _ _ hq)
    have b2 := hb _ (Value.ref (hp.objs.size + 1) :: us) I2.kIn (by rw [List.append_nil]; exact hl2)
    rw [List.append_nil] at b2
    have run := F1.run (X.A.under (.builtin "type.__call__" ⟨.ref C :: us, []⟩)) X.stack _ _ ⟨_, []⟩ _ _ _ _ (hr.make C us []) (I2.env0.make C us []) b2 r2 hq
    refine wpAny_call (PySem.HandSPX.call_own PySem.F.excBase_ValueError (fun Y => PySem.HandSPX.refsVE_contains Y bm hbm) (I1.kIn _ _ hC) (PySem.W.looks_findIn I1.kIn iC) (fun self => PySem.W.bind_fn I1.kIn self tI) hus (codeAny_mono run ?_))
    intro r s' hq'
    match r, hq' with
    | .error er, z => exact hx pins σ _ _ er s' I2 z
    | .ok (.ret u), z =>
      obtain ⟨v, H2, os2, bare2, un2, hok2, rv, ev, d, fs, ea, ed, hd1, q2⟩ := z
      subst ev
      obtain ⟨h2, g2, d2, t2, os'⟩ := s'
      obtain ⟨t0, G, J, kG, ge, hoe, na⟩ := mk_end0 (d2 := d2) (t2 := t2) I1 hsz kk un2 hok2 os2 bare2 ea ed hd1
      refine ⟨rv, ?_⟩
      exact ⟨_, _, _, ⟨G, g2, d2, t2, os'⟩, _, _, some d, rfl, J, kG, ge, hoe, ⟨rfl, rfl, fun ws hv => by cases hv <;> rfl⟩, rfl, rfl, na, rfl, bare2, raises_own T.exC T.tyC, q2⟩
    | .ok .next, z => exact False.elim z
    | .ok .brk, z => exact False.elim z
    | .ok .cont, z => exact False.elim z
  refine wpAny_Call_Name_kw (ld_glob I hg hm ?_ hdb)
  refine PySem.W.callWith_K (h₀ := X.base) I.ok.mod.kin T.kC (thn (ha.run pos pins s0 σ H _ I h) fun us s1 hh => ?_) he hpl
  obtain ⟨vs, H1, I1, r1, z⟩ := hh
  exact ⟨I1.kIn, key us s1 ⟨vs, H1, I1, r1, z⟩⟩
end
end Py
/-! Errors of own classes: what the head tells of them, raise. -/
namespace Py
open PySem L2
open He (Fa DefD Tab FnW)
/-! ### facts -/
theorem oexB_ok {c : String} {K : Frag} (h : oexB c K = true) : ∃ nm q N bs bm sn sub ab col dd k0 k1 k2 k3 k5, K.lookup (ca K c) = some (excClassObj nm q (ca K c) N bs bm true sn sub ab col dd k0 k1 k2 k3 k5 "ValueError.__new__") ∧ PySem.HandSPX.refsVE bm = true := by
  unfold oexB at h
  split at h
  · rename_i dd cd sl ho
    split at h
    · rename_i C' bm k0 k1 k2 k3 n k5 hm hs
      simp only [Bool.and_eq_true, decide_eq_true_eq, Bool.not_eq_true'] at h
      obtain ⟨h1, h2, h3, h4, h5⟩ := h
      obtain ⟨nm, bs, mro, ns, qn, hd, sn, sub, ab, col, del⟩ := cd
      dsimp only at hm h3 h4
      subst hm h3 h4 h1 h2
      have hsl : sl = #[k0, k1, k2, k3, some (.builtin "ValueError.__new__"), k5] := by
        obtain ⟨l⟩ := sl
        simp only at hs
        rw [hs]
      subst hsl
      exact ⟨nm, qn, ns, bs, bm, sn, sub, ab, col, dd, k0, k1, k2, k3, k5, ho, h5⟩
    · cases h
  · cases h
structure ErrF (P : Program) (K : Frag) (c : String) (nm qual : Str) (params : Arguments) (body : List Stmt) (scope : Scope) (fs : List String) : Prop where
  xin : ∃ cc cda fd, XIn P K (ca K c) (He.ma K (ca K c) "__init__") cc cda nm qual params body scope fd ∧ ∃ kV doc pm an ct, fd = PySem.W.ksFn nm qual params body scope .none kV doc pm an (.ref cda) ct cc
  ini : PySem.W.findIn K (.ref (ca K c)) "__init__" = some (some (.ref (He.ma K (ca K c) "__init__")))
  typ : PySem.W.typeIn K (.ref (He.ma K (ca K c) "__init__")) = some (.type "function")
  no : ∀ f ∈ fs, PySem.W.findIn K (.ref (ca K c)) (Str.ofString f) = some none
theorem err_f {P : Program} {K : Frag} {c : String} {d : DefD} {file : Str} {fs : List String} (hat : d.at_ = (Str.ofString c, some ("__init__" : Str))) (hf : ((P.main.file : Str) == file) = true) (e : fnWx K d.at_ = d.val) (h : errB file c d.qual fs K = true) : ErrF P K c d.name d.qual d.params d.body d.scope fs := by
  unfold errB at h
  simp only [Bool.and_eq_true, decide_eq_true_eq, List.all_eq_true] at h
  obtain ⟨hc, ho, h1, h2, h3, h4, h5, h6, h7, h8, h9, h10, h11⟩ := h
  have hfa : He.fAd K d.at_ = He.ma K (ca K c) "__init__" := by rw [hat] <;> rfl
  unfold cloB at hc
  unfold fnWx at e
  rw [hfa] at e
  cases q : K.lookup (He.ma K (ca K c) "__init__") with
  | none =>
    rw [q] at hc
    cases hc
  | some o =>
    obtain ⟨oc, od, dt, osl⟩ := o
    rw [q] at hc e
    cases dt with
    | func fd =>
      obtain ⟨n1, n2, n3, n4, n5, n6, n7, n8, n9, n10, n11, n12, n13, n14, n15⟩ := fd
      have e2 : (some (n1, n2, n3, n4, n5, n6, [], n15) : FnW) = some (d.name, d.qual, d.params, .stmts d.body, d.scope, mainGlobals, [], builtinsNs) := e
      simp only [Option.some.injEq, Prod.mk.injEq, true_and] at e2
      obtain ⟨g1, g2, g3, g4, g5, g6, g8⟩ := e2
      subst g1 g2 g3 g4 g5 g6 g8
      dsimp only at hc
      split at hc
      · rename_i cda y cc
        simp only [Bool.and_eq_true, decide_eq_true_eq] at hc
        obtain ⟨c1, c2, c3, c4, c5⟩ := hc
        subst c1 c2
        split at c4
        · rename_i cl cld D csl hcell
          have hD : D = ca K c := of_decide_eq_true c4
          subst hD
          split at c5
          · rename_i ccl cdd vs ccs hcode
            split at c5
            · rename_i z tf hz
              have hz2 : z = file := of_decide_eq_true c5
              subst hz2
              exact ⟨⟨cc, cda, _, ⟨⟨oc, od, _, n9, n10, n11, n12, n14, osl, rfl, q⟩, c3, ⟨ccl, cdd, vs, ccs, z, tf, hcode, hz, hf⟩, ⟨cl, cld, csl, hcell⟩, ⟨oexB_ok ho, h1, h2, h3, h4⟩, h5, h6, h7, h8⟩, n9, n10, n11, n12, n14, rfl⟩, h9, h10, h11⟩
            · cases c5
          · cases c5
        · cases c4
      · cases hc
    | _ => cases hc
/-- the name c makes an error that keeps what it is given under the names ns -/
structure ErrOk (P : Program) (w : World) (K : Frag) (mg : Str → Option Value) (base : Heap) (k : Nat) (c : String) (ns : List String) : Prop where
  ex : ∃ f fd ps, mg (Str.ofString c) = some (.ref (ca K c)) ∧ OexC K (ca K c) ∧ PySem.W.findIn K (.ref (ca K c)) "__init__" = some (some (.ref f)) ∧ PySem.W.typeIn K (.ref f) = some (.type "function") ∧ Binds K fd ps [] ∧
    FnOk P w K mg base (L2N.CX P w) k f fd ps (spX (ca K c) ns.length (ns.map Str.ofString))
/-! ### its fields, laid one behind another -/
section
variable {K : Frag} {f g : Str} {C : Addr}
theorem fld_two (T : OexC K C) (hno : PySem.W.findIn K (.ref C) f = some none) (hno2 : PySem.W.findIn K (.ref C) g = some none) {a : Addr} {ws : List V} {H1 : Hp} {D : Ends} {σ : L2.St} (h0 : σ[0]? = some (some (.ref a))) (h1 : ∀ i v, ws[i]? = some v → σ[i + 1]? = some (some v)) (hl : ws.length = 2) (hn : H1 a = none)
    (q : ∀ d H2 σ', H2 a = some (exo a C (some d)) → H2 d = some (exd d (([f, g] : List Str).zip ws).reverse) → H1 d = none → d ≠ a → (∀ b, b ≠ a → b ≠ d → H2 b = H1 b) → D.nx σ' H2) : tSeq (tOst K f (tVar 0) (tVar 1)) (tOst K g (tVar 0) (tVar 2)) D σ (upd H1 a (exo a C none)) := by
  match ws, hl with
  | [v, w], _ =>
    refine ⟨v, h1 0 v rfl, _, h0, a, C, rfl, T, hno, .inl ⟨upd_same, fun dx hdx hne => ?_⟩⟩
    have hdx2 : H1 dx = none := by
      rw [upd_ne hne] at hdx
      exact hdx
    refine ⟨w, h1 1 w rfl, _, h0, a, C, rfl, T, hno2, .inr ⟨dx, [(f, v)], upd_same, ?_, by simp, q dx _ σ ?_ ?_ hdx2 hne fun b hb hd => ?_⟩⟩
    · rw [upd_ne hne, upd_same]
    · rw [upd_ne hne.symm, upd_same]
    · rw [upd_same]
      rfl
    · rw [upd_ne hd, upd_ne hb, upd_ne hd, upd_ne hb]
end
theorem ErrF.T {P : Program} {K : Frag} {c : String} {nm qual : Str} {params : Arguments} {body : List Stmt} {scope : Scope} {fs : List String} (F : ErrF P K c nm qual params body scope fs) : OexC K (ca K c) := by
  obtain ⟨⟨cc, cda, fd, XI, _⟩, _⟩ := F
  exact XI.T
/-! ### raise -/
theorem RepF.append {K : Frag} {A : AS} {H : Hp} : ∀ {fs gs : List (String × D)} {us vs : List (Str × V)}, RepF K A H fs us → RepF K A H gs vs → RepF K A H (fs ++ gs) (us ++ vs)
  | [], gs, us, vs, h, k => by
    simp only [RepF] at h
    subst h
    exact k
  | (n, d) :: fs, gs, us, vs, h, k => by
    simp only [RepF] at h
    obtain ⟨v, r, rfl, h1, h2⟩ := h
    simp only [List.cons_append, RepF]
    exact ⟨v, r ++ vs, rfl, h1, RepF.append h2 k⟩
theorem repF_zip {K : Frag} {A : AS} {H : Hp} : ∀ {ns : List String} {ds : List D} {vs : List V}, RepL K A H ds vs → RepF K A H (ns.zip ds).reverse ((ns.map Str.ofString).zip vs).reverse
  | [], ds, vs, h => by simp [RepF]
  | n :: ns, [], vs, h => by
    simp only [RepL] at h
    subst h
    simp [RepF]
  | n :: ns, d :: ds, vs, h => by
    simp only [RepL] at h
    obtain ⟨v, r, rfl, h1, h2⟩ := h
    simp only [List.zip_cons_cons, List.map_cons, List.reverse_cons]
    refine RepF.append (repF_zip h2) ?_
    simp only [RepF]
    exact ⟨v, [], rfl, h1, rfl⟩
section
variable {fr : Rm} {X : Cx} {W : WX} {ow oN oB : Ow} {e : Expr} {es : List Expr} {am : AM} {pos p rpos : Pos} {k j : Nat} {c : String} {ns : List String}
theorem s_raise (T : Ctx X W j) (C : ErrOk X.prog X.w X.K X.mg X.base k c ns) (hk : k + 1 ≤ j) (hg : Gl X (Str.ofString c)) (ha : PA X (e :: es) (aE X.K W ow am)) (hz : ns.length ≤ 1000 := by decide)
    (hdb : (Str.ofString c == ("__debug__" : Str)) = false := by decide) (he : starEach (e :: es) X.env = (false, eval e X.env) :: starEach es X.env := by rfl) (hpl : (backTo pos (starEach es X.env)).any (·.1) = false := by rfl) :
    PS X (.Raise (some (.Call (.Name (Str.ofString c) p) (e :: es) [] pos)) none rpos) (tS3 fr X.K W ow oN oB (rais c ns am)) := by
  obtain ⟨f, fd, ps, hm, TO, hi, ht, hb, F⟩ := C.ex
  refine PS.of (L2N.ps_raise T.calm T.tk (pmkN TO hi ht F (T.hr.mono hk) hb passLN hg hm ha hdb he hpl)) fun D σ H ⟨A, H0, O, en, R, q⟩ => ?_
  refine ⟨A, H0, O, en, R, ((Out.bind (show Out (am en >>= fun ds => if ds.length = ns.length then (Res.exc c (ns.zip ds).reverse : Res Fl) else .stuck) _ _ from q)).se R).good fun ds q1 vs H1 s1 r1 => ?_⟩
  have r2 := paired_rep r1
  by_cases hl : ds.length = ns.length
  · rw [if_pos hl] at q1
    refine ⟨by rw [← r2.length, hl]; exact hz, fun a hn => ⟨a, H1, vs ++ [], by simp, rfl, hn, by simp [← r2.length, hl], fun d H2 k1 k2 k3 k4 k5 => ⟨rfl, d, _, k1, k2, k3, ?_⟩⟩⟩
    have sm : Same H1 (upd (del H2 a) d (.xd ((ns.map Str.ofString).zip (vs ++ [])).reverse)) := fun b o eb => by
      have hba : b ≠ a := ne_of_none eb hn
      have hbd : b ≠ d := ne_of_none eb k3
      rw [upd_ne hbd, del_ne hba, k5 b hba hbd]
      exact eb
    refine (show badS X.K W A H0 c (ns.zip ds).reverse from q1) σ d _ _ (R.same.trans (s1.trans sm)) upd_same ?_
    have r3 : RepL X.K A (upd (del H2 a) d (.xd ((ns.map Str.ofString).zip (vs ++ [])).reverse)) ds (vs ++ []) := by
      have r4 : RepL X.K A _ ds vs := RepL.move (Mv.less (A := AO A O) (A' := A) fun b hb => Or.inl hb) ds vs (RepL.move (Mv.same sm) ds vs r2)
      simpa using r4
    exact repF_zip r3
  · rw [if_neg hl] at q1
    exact q1.elim
end
end Py
/-! Within an except suite, and within what is called there. -/
namespace Py
open PySem L2 L2H
structure CtxH (X : Cx) (W : WX) (k : Nat) : Prop where
  tk : L2N.Takes X W
  po : PassesOwn (model X.prog X.w) X.A X.env X.xe
  hr : RoomH k X.A
  hot : HotC X
  nd : X.N.Nodup
theorem CtxH.eq {X : Cx} {W : WX} {k : Nat} (T : CtxH X W k) : OpR X (compareOp .Eq) (r2 X.K oeq) := y_eq (by have := T.hr.un; omega)
theorem CtxH.ne {X : Cx} {W : WX} {k : Nat} (T : CtxH X W k) : OpR X (compareOp .NotEq) (r2 X.K one) := y_ne (by have := T.hr.un; omega)
/-! ### loops over a range -/
/-! ### calls -/
theorem FnH.mono {P : Program} {w : World} {K : Frag} {mg : Str → Option Value} {base : Heap} {CX : CXT} {j k : Nat} {f : Addr} {fd : FuncData} {ps : List Str} {sp : Sp} (F : FnH P w K mg base CX j f fd ps sp) (h : j ≤ k) : FnH P w K mg base CX k f fd ps sp :=
  ⟨F.len, fun A outer s H args us vs Q E p hr => F.run A outer s H args us vs Q E p (hr.mono h)⟩
end Py
/-! try .. except X as e, and what is asked of e. -/
namespace Py
open PySem L2 L2H
/-! ### facts -/
def xcV (K : Frag) (t : String) : V := if t = "ValueError" then .ty "ValueError" else .ref (ca K t)
theorem xc_cls (K : Frag) (t : String) : ClsV (xcV K t) (xcU K t) := by
  unfold xcV xcU
  split
  · exact .ty _
  · exact .own _
structure ErC (K : Frag) (all fl : List String) (c : String) : Prop where
  cl : (PySem.W.clsIn K (ca K c)).isSome = true
  ga : PySem.W.findIn K (.ref (ca K c)) "__getattribute__" = some (some (.builtin "BaseException.__getattribute__"))
  gg : PySem.W.findIn K (.ref (ca K c)) "__getattr__" = some none
  be : PySem.W.subIn K (.ref (ca K c)) (.type "BaseException") = some true
  cc : PySem.W.findIn K (.ref (ca K c)) "__class__" = some (some (.builtin "object.__class__"))
  cg : PySem.W.specialIn K (.builtin "object.__class__") "__get__" = some (some (.builtin "getset_descriptor.__get__"))
  ct : PySem.W.takesIn K (.builtin "object.__class__") = some true
  ob : PySem.W.mroIn K (ca K c) (.type "object") = some true
  hd : PySem.W.hasDictIn K (ca K c) = true
  ex : PySem.W.exmOne K (.ref (ca K c)) (.ref (ca K "CarryError")) = some true
  kt : ∀ t ∈ all, PySem.W.kitOne K (.ref (ca K c)) (xcU K t) = some (xisa c [t])
  fl : ∀ f ∈ fl, PySem.W.findIn K (.ref (ca K c)) (Str.ofString f) = some none
def ErsOk (K : Frag) (es all fl : List String) : Prop := ∀ c ∈ es, ErC K all fl c
theorem ers_ok {K : Frag} {es all fl : List String} (h : ersB es all fl K = true) : ErsOk K es all fl := fun c hc => by
  have h1 := List.all_eq_true.mp h c hc
  simp only [Bool.and_eq_true, decide_eq_true_eq, List.all_eq_true] at h1
  obtain ⟨a1, a2, a3, a4, a5, a6, a7, a8, a9, b1, b2, b3⟩ := h1
  exact ⟨a1, a2, a3, a4, a5, a6, a7, a8, a9, b1, b2, b3⟩
/-! ### the body: an error leaves the names as they are -/
def tB (fr : Rm) (K : Frag) (W : WX) (ow oN oB : Ow) (m : SM) : TS := fun D σ H => ∃ A H0 O e, ER K A H0 ow O σ H e ∧ Out (m e) (EndOk3 fr K A H0 oN oB O H D) (badE K W A O σ H)
section
variable {fr : Rm} {X : Cx} {W : WX} {ow oN oB : Ow} {a e : Expr} {es' : List Expr} {m : EM} {st : Stmt} {rest body orelse : List Stmt} {u v : SM} {t : TM} {pos p : Pos} {j : Nat}
theorem b_drop (h : PS X st (tDrop (tE X.K W ow m))) : PS X st (tB fr X.K W ow ow oB (drop m)) :=
  PS.of h fun D σ H ⟨A, H0, O, en, R, q⟩ => ⟨A, H0, O, en, R, (Out.bind q).good fun d q1 v H1 s1 r1 => q1 O σ H1 (R.to s1) (Mv.same s1)⟩
theorem b_if (hc : PT X a (tT X.K W ow t)) (hb : PSs X body (tB fr X.K W ow oN oB u)) (ho : PSs X orelse (tB fr X.K W ow oN oB v)) : PS X (.If a body orelse pos) (tB fr X.K W ow oN oB (ite t u v)) :=
  PS.of (ps_if hc hb ho) fun D σ H ⟨A, H0, O, en, R, q⟩ => ⟨A, H0, O, en, R, (Out.bind q).good fun k q1 H1 s1 => by
    cases k with
    | true =>
      rw [if_pos rfl] at q1 ⊢
      exact ⟨A, H0, O, en, R.to s1, (q1.to s1).good fun f q2 => q2.to (Mv.same s1)⟩
    | false =>
      rw [if_neg (by decide)] at q1 ⊢
      exact ⟨A, H0, O, en, R.to s1, (q1.to s1).good fun f q2 => q2.to (Mv.same s1)⟩⟩
theorem bs_one (h : PS X st (tB fr X.K W ow oN oB u)) : PSs X [st] (tB fr X.K W ow oN oB u) := pss_one h
end
/-! ### try -/
theorem Ctx.tr {X : Cx} {W W' : WX} {k : Nat} (c : Ctx X W k) {pn : List (Addr × Obj)} {xe : Value → Shared → Prop} (tk : L2N.Takes (X.tr pn xe) W') (po : PassesOwn (model X.prog X.w) X.A X.env xe) : Ctx (X.tr pn xe) W' k := ⟨c.calm, tk, po, c.hr, c.nd⟩
section
variable {fr : Rm} {X : Cx} {W : WX} {ow oN oB : Ow} {body suite : List Stmt} {b₀ : Stmt} {u : SM} {h : String → List (String × D) → SM} {np pos pos' : Pos} {j i : Nat} {es all fl : List String} {x n : Str}
theorem ER.catch {K : Frag} {A : AS} {H0 : Base} {O : OW} {σ : L2.St} {H : Hp} {e : Env} (R : ER K A H0 ow O σ H e) (ho : ow.x = none) (hi : i < σ.length) {a da : Addr} {fs : List (String × D)} {fvs : List (Str × V)} (hd : H da = some (.xd fvs)) (r : RepF K (AO A O) H fs fvs) (hw : ow i = false) :
    ER K A H0 (ow.hold i a da fs) O (σ.set i (some (.ref a))) H (e.set i none) := by
  have other : ∀ k d, (e.set i none)[k]? = some (some d) → i ≠ k ∧ e[k]? = some (some d) := fun k d q => by
    by_cases hk : i = k
    · subst hk
      have hl : i < e.length := by rw [← R.len]; exact hi
      rw [List.getElem?_set_self hl] at q
      cases q
    · rw [List.getElem?_set_ne hk] at q
      exact ⟨hk, q⟩
  have off : ∀ k, i ≠ k → (ow.hold i a da fs) k = ow k := fun k hk => by
    show (k == i || ow k) = ow k
    rw [show (k == i) = false by simpa using fun z => hk z.symm, Bool.false_or]
  refine ⟨by simp [R.len], R.a0, R.same, fun k d h1 h2 => ?_, fun k d h1 h2 => ?_, R.fresh, R.inj, R.pin, fun q hq => ?_⟩
  · obtain ⟨hk, h3⟩ := other k d h1
    rw [off k hk] at h2
    rw [List.getElem?_set_ne hk]
    exact R.vals k d h3 h2
  · obtain ⟨hk, h3⟩ := other k d h1
    rw [off k hk] at h2
    rw [List.getElem?_set_ne hk]
    exact R.owns k d h3 h2
  · have hq2 : some (⟨i, a, da, fs⟩ : Xh) = some q := hq
    cases hq2
    refine ⟨by show (i == i || ow i) = true; simp, List.getElem?_set_self hi, fun d z => (other i d z).1 rfl, fvs, hd, r⟩
/-- behind the suite the name is gone -/
theorem ER.uncatch {K : Frag} {A : AS} {H0 : Base} {O : OW} {σ : L2.St} {H : Hp} {e : Env} {a da : Addr} {fs : List (String × D)} (R : ER K A H0 (oN.hold i a da fs) O σ H e) (ho : oN.x = none) : ER K A H0 oN O (σ.set i none) H (e.set i none) := by
  have hown := R.exq ⟨i, a, da, fs⟩ rfl
  have other : ∀ k d, (e.set i none)[k]? = some (some d) → i ≠ k ∧ e[k]? = some (some d) := fun k d q => by
    by_cases hk : i = k
    · subst hk
      by_cases hl : i < e.length
      · rw [List.getElem?_set_self hl] at q
        cases q
      · rw [List.getElem?_eq_none (by simp; omega)] at q
        cases q
    · rw [List.getElem?_set_ne hk] at q
      exact ⟨hk, q⟩
  have off : ∀ k, i ≠ k → (oN.hold i a da fs) k = oN k := fun k hk => by
    show (k == i || oN k) = oN k
    rw [show (k == i) = false by simpa using fun z => hk z.symm, Bool.false_or]
  refine ⟨by simp [R.len], R.a0, R.same, fun k d h1 h2 => ?_, fun k d h1 h2 => ?_, R.fresh, R.inj, R.pin, XFact.none ho⟩
  · obtain ⟨hk, h3⟩ := other k d h1
    rw [List.getElem?_set_ne hk]
    exact R.vals k d h3 ((off k hk).trans h2)
  · obtain ⟨hk, h3⟩ := other k d h1
    rw [List.getElem?_set_ne hk]
    exact R.owns k d h3 ((off k hk).trans h2)
end
end Py
/-! What a suite asks of the caught error: isinstance, fields. -/
namespace Py
open PySem L2 L2H
open He (Fa DefD Tab FnW)
section
variable {X : Cx} {a da : Addr} {oe : Obj} {pn : List (Addr × Obj)} {c : String} {es all fl : List String}
theorem suite_inst {pins : List (Addr × Obj)} {σ : L2.St} {H : Hp} {s : Shared} {fvs : List (Str × V)} (I : Inv (X.suite a ((a, oe) :: pn)) pins σ H s) (hz : Zc (.ref (ca X.K c)) (some da) oe) (hv : ∃ vs, oe.data = .fields vs) (hd : H da = some (.xd fvs)) : ∃ od, PySem.W.InstAt s.heap a oe (ca X.K c) (some od) := by
  obtain ⟨vs, hvs⟩ := hv
  obtain ⟨mA, hns, hr⟩ := (show ObjOk X.prog X.w H s.heap da (.xd fvs) from I.hok da _ hd)
  obtain ⟨od, ho, _⟩ := lookIn_ns hns
  exact ⟨od, (I.pin (a, oe) (List.mem_append_left _ List.mem_cons_self)).1, hz.1, by unfold PySem.W.notCls; rw [hvs] <;> rfl, by rw [hz.2]; exact ho⟩
theorem call_xis1 (E : ErC X.K all fl c) (hz : Zc (.ref (ca X.K c)) (some da) oe) (hv : ∃ vs, oe.data = .fields vs) : CallR (X.suite a ((a, oe) :: pn)) (.builtin "isinstance")
    (fun xs H Q => ∃ (cV : V) (u : Value) (b : Bool) (fvs : List (Str × V)), xs = [.ref a, cV] ∧ ClsV cV u ∧ H da = some (.xd fvs) ∧ PySem.W.kitOne X.K (.ref (ca X.K c)) u = some b ∧ Q (.bl b) H) := by
  intro pins s σ H xs us Q I r h
  obtain ⟨cV, u, b, fvs, rfl, k, hd, e, q⟩ := h
  obtain ⟨u1, u2, rfl, r1, r2⟩ := vals2 r
  cases (show u1 = Value.ref a from r1)
  have e2 := k.eq r2
  subst e2
  obtain ⟨od, J⟩ := suite_inst I hz hv hd
  exact PySem.W.kia_one (PySem.W.kitx_exc E.cl E.ga E.gg E.be E.cc E.cg E.ct E.ob) I.kIn J e (fun z => nomatch z) fun tk => ⟨.bl b, H, I.tok tk, rfl, q⟩
end
/-- a tuple of classes as written, by names -/
inductive XcL (X : Cx) : List Expr → List String → TA → Prop
  | nil : XcL X [] [] tNil
  | cons {e : Expr} {es : List Expr} {t : String} {ts : List String} {r : TA} (h : PE X e (tC (xcV X.K t))) (k : XcL X es ts r) (hs : starEach (e :: es) X.env = (false, eval e X.env) :: starEach es X.env) : XcL X (e :: es) (t :: ts) (tCons (tC (xcV X.K t)) r)
theorem XcL.pa {X : Cx} {es : List Expr} {ts : List String} {r : TA} (h : XcL X es ts r) : PA X es r := by
  induction h with
  | nil => exact pa_nil
  | cons h _ hs ih => exact pa_cons h ih hs
theorem XcL.run {X : Cx} {es : List Expr} {ts : List String} {r : TA} (h : XcL X es ts r) : ∀ {σ : L2.St} {H : Hp} {Q : List V → Hp → Prop}, Q (ts.map (xcV X.K)) H → r σ H Q := by
  induction h with
  | nil => exact fun q => q
  | cons h _ hs ih => exact fun q => ih (Q := fun xs H2 => _) q
section
variable {X : Cx} {W : WX} {ow : Ow} {a da : Addr} {oe : Obj} {pn : List (Addr × Obj)} {c t : String} {es all fl ts : List String} {fs : List (String × D)} {i tk : Nat} {e0 b : Expr} {els : List Expr} {r : TA} {p tp pos : Pos} {x : Str}
theorem x_xis1 (E : ErsOk X.K es all fl) (hc : c ∈ es) (hz : Zc (.ref (ca X.K c)) (some da) oe) (hv : ∃ vs, oe.data = .fields vs) (hx : x = "isinstance") (hg : Gl (X.suite a ((a, oe) :: pn)) x) (hm : X.mg x = none) (he : PE (X.suite a ((a, oe) :: pn)) e0 (tVar i)) (hb : PE (X.suite a ((a, oe) :: pn)) b (tC (xcV X.K t)))
    (hs : starEach [e0, b] X.env = (false, eval e0 X.env) :: starEach [b] X.env := by rfl) (hs2 : starEach [b] X.env = [(false, eval b X.env)] := by rfl) (hpl : (backTo pos (starEach [b] X.env)).any (·.1) = false := by rfl) (hx0 : ow.x = some ⟨i, a, da, fs⟩ := by rfl) :
    PE (X.suite a ((a, oe) :: pn)) (.Call (.Name x p) [e0, b] [] pos) (tE X.K W ow (xis es all c [t])) := by
  subst hx
  refine PE.of (pe_callB (call_xis1 (E c hc) hz hv) hg hm (by decide +kernel) (pa_cons he (pa_cons hb pa_nil hs2) hs) (by decide) (by decide) hs hpl) fun σ H Q ⟨A, H0, O, en, R, q⟩ => ?_
  obtain ⟨_, h2, _, fvs, h4, _⟩ := R.exq ⟨i, a, da, fs⟩ hx0
  have q' : Out (xis es all c [t] en) _ _ := q
  unfold xis at q'
  split at q'
  · rename_i hk
    have ht : t ∈ all := by
      rw [Bool.and_eq_true] at hk
      simpa using hk.2
    exact ⟨.ref a, h2, xcV X.K t, xcU X.K t, _, fvs, rfl, xc_cls _ _, h4, (E c hc).kt t ht, q' _ H (Same.refl H) rep_bl⟩
  · exact q'.elim
theorem x_xfld {f : String} (E : ErsOk X.K es all fl) (hc : c ∈ es) (hz : Zc (.ref (ca X.K c)) (some da) oe) (hv : ∃ vs, oe.data = .fields vs) (he : PE (X.suite a ((a, oe) :: pn)) e0 (tVar i))
    (hb : attributeBase e0 (Str.ofString f) X.env (eval e0 X.env) = eval e0 X.env := by rfl) (hx0 : ow.x = some ⟨i, a, da, fs⟩ := by rfl) : PE (X.suite a ((a, oe) :: pn)) (.Attribute e0 (Str.ofString f) pos) (tE X.K W ow (xfld es fl c f fs)) := by
  have Ec := E c hc
  by_cases hf : f ∈ fl
  · refine PE.of (pe_xf ⟨Ec.ga, Ec.gg, Ec.be, Ec.hd⟩ (Ec.fl f hf) hz hv he hb) fun σ H Q ⟨A, H0, O, en, R, q⟩ => ?_
    obtain ⟨_, h2, _, fvs, h4, h5⟩ := R.exq ⟨i, a, da, fs⟩ hx0
    have q' : Out (xfld es fl c f fs en) _ _ := q
    unfold xfld at q'
    split at q'
    · have lk := h5.look (f := f)
      have h6 : ∀ o : Option D, fs.lookup f = o → _ := fun o e => e
      cases e : fs.lookup f with
      | none =>
        rw [e] at q'
        exact q'.elim
      | some d =>
        rw [e] at q'
        have lk2 : ∃ v, fvs.lookup (Str.ofString f) = some v ∧ Rep X.K (AO A O) H d v := by
          dsimp only at lk
          rw [e] at lk
          exact lk
        obtain ⟨v, e1, r1⟩ := lk2
        exact ⟨.ref a, h2, rfl, rfl, da, fvs, v, rfl, h4, e1, q' v H (Same.refl H) r1⟩
    · exact q'.elim
  · refine ⟨fun pins s σ H Q I ⟨A, H0, O, en, R, q⟩ => ?_⟩
    have q' : Out (xfld es fl c f fs en) _ _ := q
    unfold xfld at q'
    rw [if_neg (by simp [hf])] at q'
    exact q'.elim
end
theorem xc_glob {X : Cx} {t : String} {pos : Pos} (h : t ≠ "ValueError") (hg : Gl X (Str.ofString t)) (hm : X.mg (Str.ofString t) = some (.ref (ca X.K t))) (hd : (Str.ofString t == ("__debug__" : Str)) = false := by decide) : PE X (.Name (Str.ofString t) pos) (tC (xcV X.K t)) := by
  unfold xcV
  rw [if_neg h]
  exact pe_glob hg hm rfl hd
/-! ### an error's __init__, by the head -/
section
variable {P : Program} {w : World} {K : Frag} {mg : Str → Option Value} {base : Heap} {nm qual self txt : Str} {params : Arguments} {body rest : List Stmt} {scope : Scope} {N ps : List Str} {k : Nat} {ar : Arg} {c : String} {ns : List String}
theorem err_ok (F : ErrF P K c nm qual params body scope ns) (g : mg (Str.ofString c) = some (.ref (ca K c))) (hmg : mg "super" = none) (htop : (P.main.scope.names.lookup ("super" : Str)).isSome = false) (hps : ps = self :: ns.map Str.ofString) (S : NdefX.NScope N ps ["__class__"] scope)
    (har : (params.posonlyargs ++ params.args).head? = some ar) (hself : ar.arg = self) (hsk : scope.names.lookup ("super" : Str) = some .globalImplicit) {p0 p1 p2 p3 p4 p5 : Pos} {j : Nat}
    (hbody : body = .Expr (.Call (.Attribute (.Call (.Name "super" p0) [] [] p1) "__init__" p2) [.Constant (.str txt) j p3] [] p4) p5 :: rest)
    (hbind : ∀ (kV doc pm : Value) (an : Option Addr) (cdv ct : Value) (cc : Addr) (us : List Value), us.length = ps.length → bindArgs (PySem.W.ksFn nm qual params body scope .none kV doc pm an cdv ct cc) ⟨us, []⟩ = pure (ps.zip us))
    {t : TS} (hb : ∀ (f cc cda : Addr) (A : Around) (outer : List PySem.Env) (s : Shared) (H : Hp) (E : XK), PSs (NdefX.ncx (L2N.CX P w) P w K mg base N ⟨nm, qual, params, body, scope, [("__class__", cc)], cda⟩ f A outer s H E) rest t)
    (ht : ∀ (a : Addr) (ws : List V) (H1 : Hp) (Dn : Ends) (σ : L2.St), σ[0]? = some (some (.ref a)) → (∀ i v, ws[i]? = some v → σ[i + 1]? = some (some v)) → ws.length = ns.length → H1 a = none →
      (∀ d H2 σ', H2 a = some (exo a (ca K c) (some d)) → H2 d = some (exd d ((ns.map Str.ofString).zip ws).reverse) → H1 d = none → d ≠ a → (∀ b, b ≠ a → b ≠ d → H2 b = H1 b) → Dn.nx σ' H2) → t Dn σ (upd H1 a (exo a (ca K c) none)))
    (hin : ∀ (L f cda cc : Addr), interactive (PySem.W.ksEnv qual scope L f (.ref cda) cc) = false)
    (hsw : ∀ (L f cda cc : Addr), swapsWith (.Call (.Attribute (.Call (.Name "super" p0) [] [] p1) "__init__" p2) [.Constant (.str txt) j p3] [] p4) none p5.line (PySem.W.ksEnv qual scope L f (.ref cda) cc) = pure false)
    {pl : Addr → Addr → Addr → Sem Bool} (hea : ∀ (L f cda cc : Addr), eval (.Call (.Attribute (.Call (.Name "super" p0) [] [] p1) "__init__" p2) [.Constant (.str txt) j p3] [] p4) (PySem.W.ksEnv qual scope L f (.ref cda) cc) = (do
      let ov ← attributeBase (.Call (.Name "super" p0) [] [] p1) "__init__" (PySem.W.ksEnv qual scope L f (.ref cda) cc) (eval (.Call (.Name "super" p0) [] [] p1) (PySem.W.ksEnv qual scope L f (.ref cda) cc))
      standAt p2.atName
      let (g, first) ← holding [ov] (getMethod ov "__init__" (pl f cda cc))
      callWith p4 g first (backTo p4 (starEach [.Constant (.str txt) j p3] (PySem.W.ksEnv qual scope L f (.ref cda) cc))) []))
    (hst : ∀ (L f cda cc : Addr), starEach [.Constant (.str txt) j p3] (PySem.W.ksEnv qual scope L f (.ref cda) cc) = [(false, eval (.Constant (.str txt) j p3) (PySem.W.ksEnv qual scope L f (.ref cda) cc))]) :
    ErrOk P w K mg base (k + 1) c ns := by
  obtain ⟨⟨cc, cda, fd, XI, kV, doc, pm, an, ct, hfd⟩, hini, htyp, hno⟩ := F
  refine ⟨_, fd, ps, g, XI.T, hini, htyp, ?_, ?_⟩
  · rw [hfd]
    exact .all (hbind kV doc pm an _ ct cc)
  · exact xinit_ok XI hps (by simp) S har hself hmg hsk htop hbody (hb _ cc cda) ht (fun L => hin L _ _ _) (fun L => hsw L _ _ _) (fun L => hea L _ _ _) (fun L => hst L _ _ _)
end
/-! ### the hook, the facts -/
section
open He
theorem obsYG_eq {n : Nat} {more : Frag → Bool} {fa : List Fa} {fn xf : List DefD} {ts : List Tab} {g : Addr → Option Obj} {s : Shared} (h : ∀ a, g a = s.heap.get? a) : obsYG n more fa fn xf ts g = (hookY n more fa fn xf ts).obs s := by
  have e : g = s.heap.get? := funext h
  rw [e] <;> rfl
end
structure FactsY (fa : List Fa) (fn xf : List DefD) (ts : List Tab) (ms : List (Frag → Bool)) (file : Str) (P : Program) (w : World) (K : Frag) (mg : Str → Option Value) : Prop extends Facts fa fn ts ms w K mg where
  x : (xf.map fun d => fnWx K d.at_) = xf.map DefD.val
  pf : ((P.main.file : Str) == file) = true
  ps : (P.main.scope.names.lookup ("super" : Str)).isSome = false
section
variable {fa : List Fa} {fn xf : List DefD} {ts : List Tab} {ms : List (Frag → Bool)} {file : Str} {P : Program} {w : World} {K : Frag} {mg : Str → Option Value}
theorem FactsY.err (Y : FactsY fa fn xf ts ms file P w K mg) (i j : Nat) {d : DefD} {c : String} {fs : List String} (h : xf[i]? = some d := by rfl) (hat : d.at_ = (Str.ofString c, some ("__init__" : Str)) := by rfl) (hm : ms[j]? = some (errB file c d.qual fs) := by rfl) : ErrF P K c d.name d.qual d.params d.body d.scope fs := by
  refine err_f hat Y.pf ?_ (Y.toFacts.more j hm)
  have e2 : (xf.map fun d => fnWx K d.at_)[i]? = (xf.map DefD.val)[i]? := by rw [Y.x]
  rw [List.getElem?_map, List.getElem?_map, h] at e2
  exact Option.some.inj e2
end
end Py
/-! A tuple so many times. -/
/-! Lists and tuples walked within an except suite; except X as e for an own class X. -/
namespace Py
open PySem PySem.Spec PyProof.Rows L2 L2H HotX
theorem ex_ok {es : List String} {x : String} {K : Frag} (h : exB es x K = true) : ∀ c ∈ es, PySem.W.exmOne K (.ref (ca K c)) (.ref (ca K x)) = some (decide (c = x)) := fun c hc => of_decide_eq_true (List.all_eq_true.mp h c hc)
section
variable {fr : Rm} {X : Cx} {W : WX} {ow oN oB : Ow} {body suite : List Stmt} {b₀ : Stmt} {u : SM} {h : String → List (String × D) → SM} {np pos pos' : Pos} {j i : Nat} {es all fl : List String} {n : Str} {x : String}
theorem s_tryX (T : Ctx X W j) (E : ErsOk X.K es all fl) (hex : ∀ c ∈ es, PySem.W.exmOne X.K (.ref (ca X.K c)) (.ref (ca X.K x)) = some (decide (c = x))) (hbe : X.mg (Str.ofString x) = some (.ref (ca X.K x))) (hg : Gl X (Str.ofString x)) (hi : X.N[i]? = some n) (hw : ow i = false) (ho : ow.x = none) (hoN : oN.x = none)
    (hb : ∀ (W' : WX) (pn : List (Addr × Obj)) (xe : Value → Shared → Prop), Ctx (X.tr pn xe) W' j → PSs (X.tr pn xe) body (tB fr X.K W' ow oN oB u))
    (hsu : ∀ (a : Addr) (oe : Obj) (c : String) (da : Addr) (fs : List (String × D)) (pn : List (Addr × Obj)), c ∈ es → Zc (.ref (ca X.K c)) (some da) oe → (∃ vs, oe.data = .fields vs) → CtxH (X.suite a ((a, oe) :: pn)) W0 j →
      PSs (X.suite a ((a, oe) :: pn)) (b₀ :: suite) (tS3 fr X.K W0 (ow.hold i a da fs) (oN.hold i a da fs) (oB.hold i a da fs) (h c fs)))
    (hdb : (Str.ofString x == ("__debug__" : Str)) = false := by decide) (hs : X.stack = X.env :: X.outer := by rfl) (hf : X.env.frame = some X.env.locals := by rfl) (hln : X.env.kindOf n = some .local := by rfl) :
    PS X (.Try body [.ExceptHandler (some (.Name (Str.ofString x) np)) (some n) (b₀ :: suite) pos'] [] [] pos) (tS3 fr X.K W ow oN oB (tryX x es i u h)) := by
  refine PS.of (L2N.ps_try_as (c := .ref (ca X.K x)) (i := i) (ts := fun a cls d Dn σ H => ∃ (c : String) (da : Addr) (fs : List (String × D)), c ∈ es ∧ cls = .ref (ca X.K c) ∧ d = some da ∧ tS3 fr X.K W0 (ow.hold i a da fs) (oN.hold i a da fs) (oB.hold i a da fs) (h c fs) Dn σ H) (tb := fun W' => tB fr X.K W' ow oN oB u)
    hs hf T.nd hi hln ⟨hg, hdb, .inl hbe⟩ T.tk (fun W' pn xe tk po => hb W' pn xe (T.tr tk po)) fun a oe cls d pn hz hv => ⟨fun pins s σ H D I q => ?_⟩) fun D σ H ⟨A, H0, O, en, R, q⟩ => ?_
  · obtain ⟨c, da, fs, hc, rfl, rfl, q⟩ := q
    obtain ⟨vs, hvs⟩ := hv
    exact (hsu a oe c da fs pn hc hz.zc ⟨vs, hvs⟩ ⟨takes0N, PassesOwn.never, ⟨T.hr.dp, T.hr.un⟩, ⟨(a, oe), ⟨rfl, vs, hvs, hz.2.2 vs hvs⟩, List.mem_cons_self⟩, T.nd⟩).run pins s σ H D I q
  · refine ⟨A, H0, O, en, R, ?_⟩
    have q' : Out (tryX x es i u h en) (EndOk3 fr X.K A H0 oN oB O H D) (badS X.K W A H0) := q
    unfold tryX at q'
    refine q'.catch.imp (fun f _ z => z) fun c fs q' => ?_
    · split at q'
      · rename_i hc0
        rw [Bool.and_eq_true, decide_eq_true_eq] at hc0
        have hc : c ∈ es := by simpa using hc0.1
        have hlt : i < σ.length := by rw [R.len]; exact hc0.2
        intro da H' fvs s' hd r
        by_cases hcx : c = x
        · rw [if_pos hcx] at q'
          refine ⟨true, by rw [hex c hc, decide_eq_true hcx], fun _ a ha => ⟨c, da, fs, hc, rfl, rfl, A, H0, O, en.set i none, (R.to s').catch ho hlt hd r hw, (Out.bind q').noexc.good fun f q' => ?_⟩, fun z => nomatch z⟩
          cases f with
          | next e' =>
            have q2 : EndOk3 fr X.K A H0 oN oB O H D (.next (e'.set i none)) := q'
            exact fun O' σ' H2 R' mv => q2 O' _ H2 (ER.uncatch R' hoN) ((Mv.same s').trans mv)
          | ret d =>
            have q2 : EndOk3 fr X.K A H0 oN oB O H D (.ret d) := q'
            exact q2
          | brk e' => exact q'.elim
          | cnt e' => exact q'.elim
        · rw [if_neg hcx] at q'
          refine ⟨false, by rw [hex c hc, decide_eq_false hcx], fun z => (nomatch z), fun _ => ?_⟩
          have q2 : badS X.K W A H0 c fs := q'
          exact q2 σ da H' fvs (R.same.trans s') hd (RepF.move (Mv.less fun b => .inl) _ _ r)
      · exact q'.elim
end
end Py
/-! Dict displays, list(range(..)), max and min of a list, starred items, extend. -/
namespace Py
open PySem PySem.Spec PyProof.Rows L2
theorem Ctx.inn {X : Cx} {W : WX} {k : Nat} (T : Ctx X W k) : OpR X (compareOp .In) (r2 X.K oin) := y_in (by have := T.hr.un; omega)
theorem Ctx.nin {X : Cx} {W : WX} {k : Nat} (T : Ctx X W k) : OpR X (compareOp .NotIn) (r2 X.K onotin) := y_notin (by have := T.hr.un; omega)
theorem Ctx.ix {X : Cx} {W : WX} {k : Nat} (T : Ctx X W k) : IxR X (r2 X.K oidx) := y_idx (by have := T.hr.un; omega)
theorem Ctx.st {X : Cx} {W : WX} {k : Nat} (T : Ctx X W k) : PSet X (rSetX X.K) := set_any (by have := T.hr.un; omega)
theorem CtxH.inn {X : Cx} {W : WX} {k : Nat} (T : CtxH X W k) : OpR X (compareOp .In) (r2 X.K oin) := y_in (by have := T.hr.un; omega)
theorem CtxH.nin {X : Cx} {W : WX} {k : Nat} (T : CtxH X W k) : OpR X (compareOp .NotIn) (r2 X.K onotin) := y_notin (by have := T.hr.un; omega)
theorem CtxH.ix {X : Cx} {W : WX} {k : Nat} (T : CtxH X W k) : IxR X (r2 X.K oidx) := y_idx (by have := T.hr.un; omega)
theorem CtxH.st {X : Cx} {W : WX} {k : Nat} (T : CtxH X W k) : PSet X (rSetX X.K) := set_any (by have := T.hr.un; omega)
/-! ### {} and {k: v} -/
/-! ### list(range(..)) -/
section
variable {X : Cx} {W : WX} {ow : Ow} {a b e : Expr} {es : List Expr} {m ma mb : EM} {am : AM} {pos p p2 : Pos}
/-! ### starred items -/
theorem rep_paired {K : Frag} {A : AS} {H : Hp} : ∀ {vs : List V} {ds : List D}, RepL K A H ds vs → Paired (fun v d => Rep K A H d v) vs ds
  | vs, [], r => by
    simp only [RepL] at r
    subst r
    exact .nil
  | vs, d :: ds, r => by
    simp only [RepL] at r
    obtain ⟨v, q, rfl, h1, h2⟩ := r
    exact .cons h1 (rep_paired h2)
theorem xa_star (ha : PE X e (tE X.K W ow m)) (hr : PA X es (aE X.K W ow am)) (hs : starEach (.Starred e p :: es) X.env = (true, eval e X.env) :: starEach es X.env := by rfl) : PA X (.Starred e p :: es) (aE X.K W ow (argS m am)) :=
  PA.of (StX.pa_star ha hr hs) fun σ H Q ⟨A, H0, O, en, R, q⟩ => ⟨A, H0, O, en, R, (Out.bind q).good fun d q1 v H1 s1 r1 => by
    have hrep : ∀ {bs : Bool × List D}, seqOf d = some bs → ∃ pa vs, v = .ref pa ∧ (SqT X.K H1 pa vs ∨ SqL X.K H1 pa vs) ∧ RepL X.K (AO A O) H1 bs.2 vs := by
      intro bs hb
      cases d with
      | lst xs =>
        simp only [seqOf, Option.some.injEq] at hb
        subst hb
        obtain ⟨pa, vs, e, n, h, r⟩ := (by simpa only [Rep] using r1 : ∃ a vs, v = .ref a ∧ ¬ AO A O a ∧ Rd H1 a (.lst vs) ∧ RepL X.K (AO A O) H1 xs vs)
        exact ⟨pa, vs, e, .inr (.inl h), r⟩
      | tup xs =>
        simp only [seqOf, Option.some.injEq] at hb
        subst hb
        obtain ⟨pa, vs, e, h, r⟩ := (by simpa only [Rep] using r1 : ∃ a vs, v = .ref a ∧ SqT X.K H1 a vs ∧ RepL X.K (AO A O) H1 xs vs)
        exact ⟨pa, vs, e, .inl h, r⟩
      | _ => simp [seqOf] at hb
    cases hsq : seqOf d with
    | none =>
      rw [hsq] at q1
      exact q1.elim
    | some bs =>
      obtain ⟨pa, vs, rfl, hq, r⟩ := hrep hsq
      rw [hsq] at q1
      obtain ⟨bb, xs⟩ := bs
      exact ⟨pa, vs, rfl, hq, A, H0, O, en, R.to s1, ((Out.bind q1).to s1).good fun ds q2 ws H2 s2 r2 => q2 _ H2 (s1.trans s2) (rep_paired ((RepL.move (Mv.same s2) _ _ r).append (paired_rep r2)))⟩⟩
end
end Py
/-! max, min of a list; extend; ranges with a step. -/
namespace Py
open PySem PySem.Spec PyProof.Rows L2
/-! ### max, min -/
theorem foldmax : ∀ (is : List Int) (i : Int), (is.foldl (fun a b => if b > a then b else a) i) ∈ i :: is ∧ ∀ j ∈ i :: is, j ≤ is.foldl (fun a b => if b > a then b else a) i
  | [], i => ⟨by simp, fun j hj => by rw [List.mem_singleton.mp hj]; exact Int.le_refl _⟩
  | k :: is, i => by
    simp only [List.foldl_cons]
    obtain ⟨h1, h2⟩ := foldmax is (if k > i then k else i)
    refine ⟨?_, fun j hj => ?_⟩
    · rcases List.mem_cons.mp h1 with h | h
      · rw [h]
        split <;> simp
      · exact List.mem_cons_of_mem _ (List.mem_cons_of_mem _ h)
    · have h0 := h2 _ List.mem_cons_self
      rcases List.mem_cons.mp hj with rfl | hj
      · split at h0 <;> split <;> omega
      · rcases List.mem_cons.mp hj with rfl | hj
        · split at h0 <;> split <;> omega
        · exact h2 j (List.mem_cons_of_mem _ hj)
section
variable {X : Cx}
theorem v_maxL (hc : X.calm = true) : CallR X (.builtin "max") (c1 X.K bmaxL) := cimp (cr_max hc) fun xs H Q ⟨x, e0, A, d1, d, h1, ha, e, k⟩ => by
  subst e0
  cases d1 with
  | lst xs =>
    simp only [bmaxL] at e
    split at e
    · rename_i i is hi
      simp only [Res.ok.injEq] at e
      subst e
      obtain ⟨a, vs, rfl, q, r⟩ := h1
      have e1 := ints_of r hi
      subst e1
      obtain ⟨f1, f2⟩ := foldmax is i
      refine ⟨a, i :: is, rfl, .inl q, by simp, fun m hm hle => ?_⟩
      have : m = is.foldl (fun a b => if b > a then b else a) i := by
        have a1 := f2 m hm
        have a2 := hle _ f1
        omega
      rw [this]
      exact k _ H (Same.refl H) (flat_rep rfl _ _)
    · cases e
  | _ => simp [bmaxL] at e
end
/-! ### extend -/
end Py
/-! len(x) by an own __len__. -/
/-! Lists of new lists, filled at drawn places. -/
namespace Py
open PySem L2
/-- lists of numbers, all of them new: where they stand -/
structure Nst (H : Hp) (a : Addr) (as : List Addr) (zss : List (List Int)) : Prop where
  out : H a = some (.lst (as.map V.ref))
  nd : as.Nodup
  no : a ∉ as
  len : as.length = zss.length
  inn : ∀ (k : Nat) (b : Addr) (zs : List Int), as[k]? = some b → zss[k]? = some zs → H b = some (.lst (zs.map V.int))
theorem Nst.same {H H' : Hp} {a : Addr} {as : List Addr} {zss : List (List Int)} (h : Nst H a as zss) (s : Same H H') : Nst H' a as zss :=
  ⟨s _ _ h.out, h.nd, h.no, h.len, fun k b zs h1 h2 => s _ _ (h.inn k b zs h1 h2)⟩
theorem repL_ints {K : Frag} {A : AS} {H : Hp} : ∀ zs : List Int, RepL K A H (zs.map D.int) (zs.map V.int)
  | [] => rfl
  | z :: zs => ⟨.int z, zs.map V.int, rfl, rfl, repL_ints zs⟩
theorem Nst.rep {K : Frag} {A : AS} {H : Hp} {a : Addr} {as : List Addr} {zss : List (List Int)} (h : Nst H a as zss) (na : ¬ A a) (nb : ∀ b ∈ as, ¬ A b) : Rep K A H (.lst (zss.map fun (zs : List Int) => D.lst (zs.map D.int))) (.ref a) := by
  have key : ∀ (as : List Addr) (zss : List (List Int)), as.length = zss.length → (∀ b ∈ as, ¬ A b) → (∀ (k : Nat) (b : Addr) (zs : List Int), as[k]? = some b → zss[k]? = some zs → H b = some (.lst (zs.map V.int))) → RepL K A H (zss.map fun (zs : List Int) => D.lst (zs.map D.int)) (as.map V.ref) := by
    intro as
    induction as with
    | nil =>
      intro zss hl _ _
      cases zss with
      | nil => rfl
      | cons z zs => simp at hl
    | cons b as ih =>
      intro zss hl hb hi
      cases zss with
      | nil => simp at hl
      | cons zs zss =>
        refine ⟨.ref b, as.map V.ref, rfl, ⟨b, _, rfl, hb b List.mem_cons_self, .inl (hi 0 b zs rfl rfl), repL_ints zs⟩, ih zss (by simpa using hl) (fun c hc => hb c (List.mem_cons_of_mem _ hc)) fun k c ws h1 h2 => hi (k + 1) c ws h1 h2⟩
  exact ⟨a, _, rfl, na, .inl h.out, key as zss h.len nb h.inn⟩
end Py
/-! .. filled by a loop. -/
namespace PySem
open Builtin
end PySem
/-! list(zip(*x)): zip over any number of lists and tuples of one length. -/
namespace Py
open PySem PySem.Spec PyProof.Rows L2
abbrev Col := Bool × Nat × Array Value
def refs (n0 n : Nat) : List Value := (List.range n).map fun m => Value.ref (n0 + m)
/-- a zip over columns at n0: f0, f1: what it knows of the tuple given out -/
structure ZAt (h : Heap) (n0 : Nat) (cs : List Col) (i : Nat → Nat) (f0 f1 : Value) : Prop where
  it : ∀ (m : Nat) (c : Col), cs[m]? = some c → IAt c.1 h (n0 + m) c.2.1 (i m)
  sq : ∀ (m : Nat) (c : Col), cs[m]? = some c → SAt c.1 h c.2.1 c.2.2 ∧ c.2.1 < n0
  ti : h.get? (n0 + cs.length) = some { cls := .type "tuple", data := .seq (refs n0 cs.length).toArray }
  ob : h.get? (n0 + cs.length + 2) = some { cls := .type "zip", data := .fields #[f0, f1, .bool false, .ref (n0 + cs.length), .ref (n0 + cs.length + 1)] }
def TOAt (h : Heap) (n0 : Nat) (cs : List Col) : Prop := ∃ vs : Array Value, vs.size = cs.length ∧ h.get? (n0 + cs.length + 1) = some { cls := .type "tuple", data := .seq vs }
end Py
/-! A turn of a zip over any number of columns. -/
namespace Py
open PySem PySem.Spec PyProof.Rows L2
/-- outside the zip's own objects -/
def Off (n0 : Nat) (cs : List Col) (a : Nat) : Prop := a < n0 ∨ n0 + cs.length + 3 ≤ a
def Kp (n0 : Nat) (cs : List Col) (h h' : Heap) : Prop := ∀ (a : Nat) o, Off n0 cs a → h.get? a = some o → h'.get? a = some o
theorem Kp.refl {n0 : Nat} {cs : List Col} {h : Heap} : Kp n0 cs h h := fun _ _ _ e => e
end Py
/-! A zip over any number of columns: further turns, its end, next. -/
namespace Py
open PySem PySem.Spec PyProof.Rows L2
/-- a zip behind i turns; T: the tuple given out last -/
inductive ZSt (h : Heap) (n0 : Nat) (cs : List Col) (i : Nat) : Prop
  | fresh (z : ZAt h n0 cs (fun _ => i) .none (.bool false)) (to : TOAt h n0 cs)
  | held (T : Nat) (f : Bool) (z : ZAt h n0 cs (fun _ => i) (rawInt T) (.bool f)) (hT : ∃ o, h.get? T = some o) (off : Off n0 cs T)
section
variable {prog : Program} {w : World} {A : Around} {E : Value → Shared → Prop} {s : Shared}
theorem ZSt.ty {n0 i : Nat} {cs : List Col} (z : ZSt s.heap n0 cs i) : s.TypeIs (.ref (n0 + cs.length + 2)) "zip" := by
  cases z with
  | fresh z _ => exact ⟨_, z.ob, rfl⟩
  | held T f z _ _ => exact ⟨_, z.ob, rfl⟩
end
end Py
/-! list(z), z a zip just made. -/
/-! list(zip(*x)) in the mirror; range with a step. -/
/-! A slice of a list is a new list. -/
/-! == by an own __eq__. -/
/-! sorted(xs) of numbers, of tuples of numbers and tuples. -/
/-! Draws. -/
namespace Py
open PySem PySem.Spec PyProof.Rows L2
theorem rep_ints_inv {K : Frag} {A : AS} {H : Hp} : ∀ {xs : List D} {is : List Int} {vs : List V}, allI xs = some is → RepL K A H xs vs → vs = is.map V.int
  | [], is, vs, e, r => by
    simp only [allI, Option.some.injEq] at e
    subst e
    simpa [RepL] using r
  | d :: xs, is, vs, e, r => by
    cases d <;> simp only [allI, reduceCtorEq] at e
    rename_i i
    cases h : allI xs with
    | none => rw [h] at e; cases e
    | some js =>
      rw [h] at e
      simp only [Option.map_some, Option.some.injEq] at e
      subst e
      simp only [RepL] at r
      obtain ⟨v, w, rfl, h1, h2⟩ := r
      rw [rep_ints_inv h h2]
      have h1' : v = .int i := h1
      rw [h1']
      rfl
theorem repW_cells {K : Frag} {A : AS} {H : Hp} {q : Nat × List Int} {v : V} (h : RepW K A H (.drw (.inr q)) v) : RepW K A H (.lst (q.2.map .int)) v := by
  obtain ⟨e, n, r⟩ := (by simpa only [RepW, Rep] using h : v = .ref q.1 ∧ ¬ A q.1 ∧ Rd H q.1 (.lst (q.2.map V.int)))
  exact ⟨q.1, _, e, r, repL_ints q.2⟩
section
variable {fr : Rm} {X : Cx} {W : WX} {A : AS} {H0 : Base} {ow oN oB : Ow} {a b c e : Expr} {es : List Expr} {m ma mb mc : EM} {am : AM} {pos : Pos} {body : List Stmt} {t : TS}
theorem y_idxC (hu : X.A.units + 16 < cLine) : IxR X (r2 X.K oidxC) := by
  intro value slice pins s σ H x y v u Q I rx ry ⟨A, d1, d2, d, h1, h2, ha, e, k⟩ hs
  cases d1 with
  | drw q =>
    cases q with
    | inl _ => cases e
    | inr q => exact y_idx hu value slice pins s σ H x y v u Q I rx ry ⟨A, _, d2, d, repW_cells h1, h2, ha, e, k⟩ hs
  | _ => cases e
theorem Ctx.ixC {X : Cx} {W : WX} {k : Nat} (T : Ctx X W k) : IxR X (r2 X.K oidxC) := y_idxC (by have := T.hr.un; omega)
theorem n_idxC : NoEx2 oidxC := fun x y c fs => by
  cases x with
  | drw q =>
    cases q with
    | inl _ => rfl
    | inr q => exact n_idx _ _ () ()
  | _ => rfl
theorem v_lenC : CallR X (.builtin "len") (c1 X.K blenC) := fun pins s σ H xs us Q I rx ⟨x, e0, A, d1, d, h1, ha, e, k⟩ => by
  cases d1 with
  | drw q =>
    cases q with
    | inl _ => cases e
    | inr q => exact v_len pins s σ H xs us Q I rx ⟨x, e0, A, _, d, repW_cells h1, ha, e, k⟩
  | _ => cases e
theorem n_lenC : NoEx1 blenC := fun x c fs => by
  cases x with
  | drw q =>
    cases q with
    | inl _ => rfl
    | inr q => exact n_len (.lst (q.2.map .int)) () ()
  | _ => rfl
theorem x_idxC (hi : IxR X (r2 X.K oidxC)) (ha : PE X a (tW X.K W ow ma)) (hb : PE X b (tW X.K W ow mb)) (hs : PlainIx b := by exact fun _ _ => rfl) : PE X (.Subscript a b pos) (tE X.K W ow (bin oidxC ma mb)) :=
  PE.of (pe_ix hi ha hb hs) fun _ _ _ h => two_of n_idxC h
theorem s_retB (h : PE X a (tE X.K W ow m)) (h0 : ow 0 = true) : PS X (.Return (some a) pos) (tS3 .lent X.K W ow oN oB (retB m)) :=
  PS.of (ps_ret h) fun D σ H ⟨A, H0, O, en, R, q⟩ => ⟨A, H0, O, en, R, ((Out.bind q).se R).good fun d q1 v H1 s1 r1 => by
    obtain ⟨l, hl, q2⟩ := var_ok q1
    obtain ⟨b, p1, p2, p3⟩ := (R.to s1).owns 0 l hl h0
    have q3 : EndOk3 .lent X.K A H0 oN oB O H D (.ret (.tup [d, l])) := q2
    exact q3 v H1 (R.same.trans s1) ⟨d, l, rfl, Rep.move (Mv.less fun b => .inl) _ _ r1, fun x hx => by
      have z := (R.to s1).pin x hx
      rw [z] at p1
      cases p1
      exact p3.move (Mv.less fun b => .inl) rfl⟩⟩
/-! ### a pool is opened, closed -/
theorem Inv.opened {pins : List (Addr × Obj)} {σ : L2.St} {H : Hp} {s : Shared} {k : Bool} {x a0 : Addr} (I : Inv X pins σ H s) (h : H x = some (poolO k x a0)) :
    ∃ vs, PoolV k a0 vs ∧ Inv X pins σ (upd H x (.lst vs)) s := by
  obtain ⟨⟨vs, its, n, hp, hv, hg⟩, ho, _⟩ := I.hok x _ h
  refine ⟨vs, hp, ?_⟩
  have hl : vs.length ≤ sizeLine := by
    cases k
    · obtain ⟨p, c, m, rfl, _⟩ := hp
      exact (by decide : 4 ≤ sizeLine)
    · obtain ⟨p, c, j, m, rfl, _⟩ := hp
      exact (by decide : 5 ≤ sizeLine)
  exact L2.Inv.write (e := x) (o := .lst vs) (t' := s.toks) I (by rw [h]; exact True.intro) (.inl rfl) (fun b u _ q => q) ⟨_, hg⟩ ⟨hl, its, n, hv, hg⟩
theorem Inv.closed {pins : List (Addr × Obj)} {σ : L2.St} {H : Hp} {s : Shared} {k : Bool} {x a0 : Addr} {vs : List V} (I : Inv X pins σ H s) (h : H x = some (.lst vs)) (hp : PoolV k a0 vs) :
    Inv X pins σ (upd H x (poolO k x a0)) s := by
  obtain ⟨hl, its, n, hv, hg⟩ := I.hok x _ h
  refine L2.Inv.write (e := x) (o := poolO k x a0) (t' := s.toks) I (by rw [h]; exact True.intro) (.inl rfl) (fun b u _ q => q) ⟨_, hg⟩ ⟨⟨vs, its, n, hp, hv, hg⟩, ⟨_, hg⟩, ?_⟩
  rintro h1 h2 ⟨vs', its', n', hp', hv', hg'⟩ kk
  exact ⟨vs', its', n', hp', hv', kk _ hg'⟩
def tOpen (t : TS) : TS := fun D σ H => ∃ k x a0, H x = some (poolO k x a0) ∧ ∀ vs, PoolV k a0 vs → t { nx := fun _ _ => False, rt := fun v H' => ∃ vs', PoolV k a0 vs' ∧ H' x = some (.lst vs') ∧ D.rt v (upd H' x (poolO k x a0)) } σ (upd H x (.lst vs))
theorem pss_open (h : PSs X body t) : PSs X body (tOpen t) := ⟨fun pins s σ H D I ⟨k, x, a0, hx, q⟩ => by
  obtain ⟨vs, hp, J⟩ := Inv.opened I hx
  refine thn (h.run pins s σ _ _ J (q vs hp)) fun f s' z => ?_
  cases f with
  | next => obtain ⟨_, _, _, z⟩ := z; exact z.elim
  | brk => obtain ⟨_, _, _, z⟩ := z; exact z.elim
  | cont => obtain ⟨_, _, _, z⟩ := z; exact z.elim
  | ret u =>
    obtain ⟨v, σ', H', I', r', vs', p', e', d'⟩ := z
    exact ⟨v, σ', _, Inv.closed I' e' p', r', d'⟩⟩
theorem pool_v {K : Frag} {k : Bool} {A : AS} {H : Hp} {a0 : Nat} {xs : List Int} {ds : List D} {vs : List V} (h : DV k a0 xs ds) (r : RepL K A H ds vs) : PoolV k a0 vs := by
  cases k
  · obtain ⟨p, c, m, rfl, h1, h2, h3⟩ := h
    simp only [RepL, Rep] at r
    obtain ⟨v0, r0, rfl, ⟨rfl, _⟩, v1, r1, rfl, rfl, v2, r2, rfl, rfl, v3, r3, rfl, rfl, rfl⟩ := r
    exact ⟨p, c, m, rfl, h1, h2, h3⟩
  · obtain ⟨p, c, j, m, rfl, h1, h2, h3⟩ := h
    simp only [RepL, Rep] at r
    obtain ⟨v0, r0, rfl, ⟨rfl, _⟩, v1, r1, rfl, rfl, v2, r2, rfl, rfl, v3, r3, rfl, rfl, v4, r4, rfl, rfl, rfl⟩ := r
    exact ⟨p, c, j, m, rfl, h1, h2, h3⟩
theorem pool_d {K : Frag} {k : Bool} {A : AS} {H : Hp} {a0 : Nat} {xs : List Int} {vs : List V} (h : PoolV k a0 vs) (na : ¬ A a0) (r : Rd H a0 (.lst (xs.map V.int))) : ∃ ds, DV k a0 xs ds ∧ RepL K A H ds vs := by
  cases k
  · obtain ⟨p, c, m, rfl, h1, h2, h3⟩ := h
    refine ⟨_, ⟨p, c, m, rfl, h1, h2, h3⟩, ?_⟩
    simp only [RepL, Rep]
    exact ⟨_, _, rfl, ⟨rfl, na, r⟩, _, _, rfl, rfl, _, _, rfl, rfl, _, _, rfl, rfl, rfl⟩
  · obtain ⟨p, c, j, m, rfl, h1, h2, h3⟩ := h
    refine ⟨_, ⟨p, c, j, m, rfl, h1, h2, h3⟩, ?_⟩
    simp only [RepL, Rep]
    exact ⟨_, _, rfl, ⟨rfl, na, r⟩, _, _, rfl, rfl, _, _, rfl, rfl, _, _, rfl, rfl, _, _, rfl, rfl, rfl⟩
end
theorem ar_pick {k : Bool} : Ar 2 (pickF k) := ⟨fun ds h => by
  match ds, h with
  | [], _ => rfl
  | [_], _ => simp [pickF]
  | _ :: _ :: _ :: _, _ => simp [pickF]
  | [a, b], h => exact absurd rfl h⟩
theorem rd_ne {H : Hp} {a0 x : Addr} {k : Bool} {vs : List V} (h : H x = some (poolO k x a0)) (r : Rd H a0 (.lst vs)) : a0 ≠ x := fun e => by
  subst e
  rcases r with r | ⟨o, r⟩ <;> (rw [h] at r; cases r)
theorem Rd.upd {H : Hp} {a x : Addr} {u o : HO} (r : Rd H a u) (h : a ≠ x) : Rd (upd H x o) a u := by
  rcases r with r | ⟨q, r⟩
  · exact .inl (by rw [upd_ne h]; exact r)
  · exact .inr ⟨q, by rw [upd_ne h]; exact r⟩
section
variable {P : Program} {w : World} {K : Frag} {mg : Str → Option Value} {base : Heap} {k : Nat} {oN oB : Ow} {m : SM} {f : Addr} {N ps : List Str} {n : Nat}
theorem draw_start {kk : Bool} {E : XK} {vs : List V} {H : Hp} {Q : VK} (hN : 2 ≤ N.length) (hD : Draws kk N.length m) (h : spM K 2 (pickF kk) vs H Q E) :
    tOpen (tS3 .lent K (WD E) ⟨fun i => i == 0, none⟩ oN oB m) { nx := fun _ H' => Q .non H', rt := Q } (L2.start N vs) H := by
  obtain ⟨A, ds, r, hl, ha, q⟩ := h
  match ds, hl with
  | [d1, d2], _ =>
  cases d1 with
  | drw z =>
    cases z with
    | inl q0 =>
      cases d2 with
      | int many =>
        simp only [pickF] at q
        split at q
        · rename_i hc
          obtain ⟨rfl, h1, h2⟩ := hc
          simp only [RepL, Rep] at r
          obtain ⟨v0, r0, rfl, ⟨x, a0, xs, rfl, nx, hx, na, rd⟩, v1, r1, rfl, rfl, rfl⟩ := r
          refine ⟨q0, x, a0, hx, fun vs hv => ?_⟩
          have hne := rd_ne hx rd
          have nO : ∀ i y, (if i = 0 then some x else none) = some y → i = 0 ∧ y = x := fun i y h => by
            by_cases hi : i = 0
            · rw [if_pos hi] at h
              cases h
              exact ⟨hi, rfl⟩
            · rw [if_neg hi] at h
              cases h
          have nAO : ¬ AO A (fun i => if i = 0 then some x else none) a0 := fun z => z.elim na fun ⟨i, z⟩ => hne (nO i a0 z).2
          obtain ⟨ds, hds, rds⟩ := pool_d (K := K) (A := AO A fun i => if i = 0 then some x else none) (H := upd H x (.lst vs)) hv nAO (Rd.upd rd hne)
          obtain ⟨rr, ds', hb, hr1, hr2, hds'⟩ := hD a0 xs ds many hds h1 h2
          refine ⟨A, ⟨fun b => if b = x then none else H b, some x⟩, fun i => if i = 0 then some x else none, [some (.lst ds), some (.int many)] ++ List.replicate (N.length - 2) none, ?_, ?_⟩
          · refine ⟨?_, fun b hb => ?_, fun b o e => ?_, fun i d g1 g2 => ?_, fun i d g1 g2 => ?_, fun i y g => ?_, fun i j y g g' => (nO i y g).1.trans (nO j y g').1.symm, fun y g => by cases g; rfl, XFact.none rfl⟩
            · unfold L2.start
              simp only [List.length_append, List.length_map, List.length_replicate, List.length_cons, List.length_nil]
            · by_cases e : b = x
              · rw [e, upd_same]
                exact fun z => nomatch z
              · rw [upd_ne e]
                exact ha b hb
            · have e : (if b = x then none else H b) = some o := e
              by_cases e2 : b = x
              · rw [if_pos e2] at e
                cases e
              · rw [if_neg e2] at e
                rw [upd_ne e2]
                exact e
            · match i with
              | 0 => exact absurd g2 (by simp)
              | 1 =>
                simp at g1
                subst g1
                exact ⟨_, start_get (i := 1) rfl, rfl⟩
              | i + 2 =>
                rw [List.getElem?_append_right (by simp), List.getElem?_replicate] at g1
                split at g1 <;> cases g1
            · match i with
              | 0 =>
                simp at g1
                subst g1
                exact ⟨x, rfl, start_get (i := 0) rfl, vs, upd_same, rds⟩
              | i + 1 => exact absurd g2 (by simp)
            · obtain ⟨rfl, rfl⟩ := nO i y g
              exact ⟨if_pos rfl, by rw [upd_same]; exact fun z => (nomatch z), nx⟩
          · rw [hb]
            intro v H' s' ⟨rv, l, e, g1, g2⟩
            cases e
            obtain ⟨vs', e1, rl⟩ := g2 x rfl
            refine ⟨vs', pool_v hds' rl, e1, ?_⟩
            have hv : v = .int rr := g1
            subst hv
            refine q rr.toNat (by omega) (.int rr) _ (fun b o e => ?_) (by
              have : (rr.toNat : Int) = rr := by omega
              show V.int rr = V.int (rr.toNat : Int)
              rw [this])
            by_cases e2 : b = x
            · subst e2
              rw [hx] at e
              cases e
              exact upd_same
            · rw [upd_ne e2]
              exact s' b o (by show (if b = x then none else H b) = some o; rw [if_neg e2]; exact e)
        · exact q.elim
      | _ => simp only [pickF] at q; exact q.elim
    | inr _ => cases d2 <;> (simp only [pickF] at q; exact q.elim)
  | _ => cases d2 <;> (simp only [pickF] at q; exact q.elim)
theorem def_okP {d : He.DefD} {kk : Bool} (F : ∃ fd, FunD K d.name d.qual d.params d.body d.scope [] [] f fd) (g : mg d.name = some (.ref f)) (S : FnScope N ps d.scope) (hpl : ps.length = 2) (hnl : N.length = n) (hD : Draws kk n m)
    (hbind : ∀ (kV doc pm : Value) (an : Option Addr) (cdv ct : Value) (us : List Value), us.length = ps.length → bindArgs (PySem.W.fnOf d.name d.qual d.params d.body d.scope .none kV doc pm an cdv ct) ⟨us, []⟩ = pure (ps.zip us))
    (hb : ∀ (cdv : Value) (A : Around) (outer : List PySem.Env) (s : Shared) (H : Hp) (E : XK), Ctx (cxOf (L2N.CX P w) P w K mg base N d.qual d.scope f cdv A outer s H E) (WD E) k →
      PSs (cxOf (L2N.CX P w) P w K mg base N d.qual d.scope f cdv A outer s H E) d.body (tS3 .lent K (WD E) ⟨fun i => i == 0, none⟩ oN oB m)) : CallOk P w K mg base (k + 1) d.name d ps 2 (pickF kk) := by
  obtain ⟨fd, F⟩ := F
  subst hnl
  refine ⟨f, fd, g, F.kp, FunD.bindsN F hbind, ?_, ar_pick, F⟩
  refine F.ok S (fun vs H Q E ⟨A, ds, r, h, _⟩ => by rw [hpl]; exact r.length.symm.trans h) (fun cdv A outer s H vs Q E hr h => ?_)
  exact ⟨_, pss_open (hb cdv A outer s H E ⟨rfl, L2N.takes_of rfl rfl rfl rfl, passes_of rfl, hr, S.nd⟩), draw_start (by rw [← hpl]; exact pre_le S.pre) hD h⟩
end
/-! ### a new pool -/
def tPool (t : TE) : TE := fun σ H Q => t σ H fun v H' => ∃ k x a0 vs, v = .ref x ∧ H' x = some (.lst vs) ∧ PoolV k a0 vs ∧ Q v (upd H' x (poolO k x a0))
section
variable {X : Cx} {W : WX} {ow : Ow} {e : Expr} {m : EM}
theorem pe_pool {t : TE} (h : PE X e t) : PE X e (tPool t) := ⟨fun pins s σ H Q I q => thn (h.run pins s σ H _ I q) fun u s' ⟨v, H', I', r', k, x, a0, vs, e1, e2, e3, e4⟩ => ⟨v, _, Inv.closed I' e2 e3, r', e4⟩⟩
theorem pool_end {K : Frag} {A : AS} {O : OW} {H H' : Hp} {Q : VK} {a : Addr} {k : Bool} {xs : List D} {vs : List V} (h0 : ∀ b, AO A O b → H b ≠ none) (n : H a = none) (s : Same H H') (e : H' a = some (.lst vs)) (hx : (allI xs).isSome)
    (hr : ∃ a0, (¬ AO A O a0 ∧ a0 ≠ a) ∧ (∃ ws, Rd H' a0 (.lst ws) ∧ RepL K (fun b => AO A O b ∨ b = a) H' xs ws) ∧ PoolV k a0 vs) (q : ∀ v H2, Same H H2 → Rep K (AO A O) H2 (.drw (.inl k)) v → Q v H2) :
    ∃ k x a0 vs, V.ref a = .ref x ∧ H' x = some (.lst vs) ∧ PoolV k a0 vs ∧ Q (.ref a) (upd H' x (poolO k x a0)) := by
  obtain ⟨a0, ⟨h1, h2⟩, ⟨ws, h3, h4⟩, h5⟩ := hr
  refine ⟨k, a, a0, vs, rfl, e, h5, q _ _ (fun b o g => ?_) ?_⟩
  · rw [upd_ne (fun z => by rw [z, n] at g; cases g)]
    exact s b o g
  · obtain ⟨is, his⟩ := Option.isSome_iff_exists.mp hx
    have hw := rep_ints_inv his h4
    subst hw
    simp only [Rep]
    exact ⟨a, a0, is, rfl, fun z => h0 a z n, upd_same, h1, Rd.upd h3 h2⟩
theorem x_pool (h : PE X e (tF X.K W ow m)) : PE X e (tE X.K W ow (mkp m)) :=
  PE.of (pe_pool h) fun σ H Q ⟨A, H0, O, en, R, q⟩ => ⟨A, H0, O, en, R, (Out.bind q).good fun d q1 a H' n s o => by
    rcases mkpF_inv d with hd | ⟨xs, p, c, u, rfl, hc, hd⟩ | ⟨xs, p, c, j, u, rfl, hc, hd⟩
    · rw [hd] at q1
      exact q1.elim
    · rw [hd] at q1
      obtain ⟨vs, e1, r⟩ := o
      simp only [RepL, Rep] at r
      obtain ⟨v0, r0, rfl, ⟨a0, ws, rfl, na, rd, rl⟩, v1, r1, rfl, rfl, v2, r2, rfl, rfl, v3, r3, rfl, rfl, rfl⟩ := r
      exact pool_end (k := false) R.there n s e1 hc.1 ⟨a0, ⟨fun z => na (.inl z), fun z => na (.inr z)⟩, ⟨ws, rd, rl⟩, ⟨p, c, u, rfl, hc.2⟩⟩ q1
    · rw [hd] at q1
      obtain ⟨vs, e1, r⟩ := o
      simp only [RepL, Rep] at r
      obtain ⟨v0, r0, rfl, ⟨a0, ws, rfl, na, rd, rl⟩, v1, r1, rfl, rfl, v2, r2, rfl, rfl, v3, r3, rfl, rfl, v4, r4, rfl, rfl, rfl⟩ := r
      exact pool_end (k := true) R.there n s e1 hc.1 ⟨a0, ⟨fun z => na (.inl z), fun z => na (.inr z)⟩, ⟨ws, rd, rl⟩, ⟨p, c, j, u, rfl, hc.2⟩⟩ q1⟩
end
theorem always_out {α : Type} {P : α → Prop} {r : Res α} {good : α → Prop} {bad : String → List (String × Py.D) → Prop} (h : Always P r) (k : ∀ a, P a → good a) : Out r good bad := by
  induction r with
  | ok a => exact k a h
  | exc c fs => exact h.elim
  | stuck => exact h.elim
  | pick n f ih => exact fun i hi => ih i (h i hi)
/-- whatever is drawn, the law holds -/
theorem sp_lawA {K : Frag} {fm : List Py.D → Res Py.D} (hL : noL K = true) {H : Hp} {a : Addr} {ns : List Int} (hm : Always (fun d => d = .bl true) (fm [.lst (ns.map .int)])) (hS : SqL K H a (ns.map V.int)) :
    spM K 1 fm [.ref a] H (fun v _ => v = .bl true) fun _ _ _ => False := by
  refine ⟨fun _ => False, [.lst (ns.map .int)], ?_, rfl, fun _ h => h.elim, always_out hm fun d e => ?_⟩
  · simp only [RepL]
    refine ⟨_, _, rfl, ?_, rfl⟩
    simp only [Rep]
    exact ⟨a, _, rfl, id, sqL_rd hL hS, ints_rep ns⟩
  · subst e
    exact fun v H' _ r => r
end Py
/-! Defs that give back a pair of new lists. -/
namespace Py
open PySem L2
def spT (K : Frag) (p : Nat) (m : List D → Res D) : Sp := fun vs H Q E => ∃ A ds, RepL K A H ds vs ∧ ds.length = p ∧ (∀ a, A a → H a ≠ none) ∧
  Out (m ds) (fun d => (d = .non → ∀ H', Same H H' → Q .non H') ∧ ∀ a b c x y H', d = .tup [x, y] → SqT K H' a [.ref b, .ref c] → b ≠ c → H b = none → H c = none → Same H H' → OwnAt K (fun z => (A z ∨ z = b) ∨ z = c) H' b x → OwnAt K (fun z => (A z ∨ z = b) ∨ z = c) H' c y → Q (.ref a) H') (fun c fs => ∀ da H' fvs, Same H H' → H' da = some (.xd fvs) → RepF K A H' fs fvs → E (.ref (ca K c)) (some da) H')
theorem spT_le {K : Frag} {p : Nat} {m : List D → Res D} {vs : List V} {H : Hp} {Q : VK} {E : XK} (h : spM K p m vs H Q E) : spT K p m vs H Q E := by
  obtain ⟨A, ds, r, hl, ha, q⟩ := h
  refine ⟨A, ds, r, hl, ha, q.good fun d k => ⟨fun e H' s => ?_, fun a b c x y H' e1 e2 e3 e4 e5 s o1 o2 => k (.ref a) H' s ?_⟩⟩
  · subst e
    exact k .non H' s rfl
  · subst e1
    have nb : ¬ A b := fun z => ha b z e4
    have nc : ¬ A c := fun z => ha c z e5
    have mv : Mv (fun z => (A z ∨ z = b) ∨ z = c) H' A H' := Mv.less fun b x => .inl (.inl x)
    simp only [Rep, RepL]
    exact ⟨a, _, rfl, e2, _, _, rfl, o1.rep mv nb, _, _, rfl, o2.rep mv nc, rfl⟩
/-- the name x calls a def that gives back a pair of new lists -/
def CallT (P : Program) (w : World) (K : Frag) (mg : Str → Option Value) (base : Heap) (k : Nat) (x : Str) (d : He.DefD) (ps : List Str) (n : Nat) (fm : List D → Res D) : Prop := ∃ f fd, mg x = some (.ref f) ∧ PySem.W.keepIn K (.ref f) = true ∧ Binds K fd ps [] ∧ FnOk P w K mg base (L2N.CX P w) k f fd ps (spT K n fm) ∧ Ar n fm ∧ FunD K d.name d.qual d.params d.body d.scope [] [] f fd
theorem CallT.le {P : Program} {w : World} {K : Frag} {mg : Str → Option Value} {base : Heap} {k : Nat} {x : Str} {d : He.DefD} {ps : List Str} {n : Nat} {fm : List D → Res D} (C : CallT P w K mg base k x d ps n fm) : CallOk P w K mg base k x d ps n fm := by
  obtain ⟨f, fd, h1, h2, h3, h4, h5⟩ := C
  exact ⟨f, fd, h1, h2, h3, h4.imp fun _ _ _ _ z => spT_le z, h5⟩
end Py
/-! Dict comprehensions, whatever their keys are. -/
/-! Dict comprehensions. -/
/-! A dict's keys walked, list(d), str(i). -/
namespace Py
open PySem PySem.Spec PyProof.Rows L2
section
variable {X : Cx} {W : WX} {ow : Ow} {tg a : Expr} {ma : EM} {pos : Pos}
theorem x_strI {x : Str} {p : Pos} (hx : x = "str") (hg : Gl X x) (hm : X.mg x = none) (ha : PE X a (tW X.K W ow ma)) (hs : starEach [a] X.env = [(false, eval a X.env)] := by rfl) : PE X (.Call (.Name x p) [a] [] pos) (tE X.K W ow (un bstr ma)) := by
  subst hx
  refine PE.of (pe_callTy call_str_int hg hm (by decide +kernel) (pa_cons ha pa_nil hs) (by decide) (by decide) hs (by rfl)) fun σ H Q ⟨A, H0, O, en, R, q⟩ => ⟨A, H0, O, en, R, (Out.bind q).good fun d q1 v H1 s1 r1 => ?_⟩
  cases d with
  | int i =>
    have hv : v = .int i := r1
    subst hv
    have q2 : Out (if i.natAbs.log2 < 1900 then Res.ok (Py.D.str (toString i)) else .stuck) _ _ := q1
    split at q2
    · exact ⟨i, rfl, by omega, q2 _ H1 s1 rfl⟩
    · exact q2.elim
  | _ => exact q1.elim
end
end Py
/-! for t in zip(a, b), t a name. -/
/-! Texts: join, split, f-strings, int of a text, signs. -/
namespace Py
open PySem PySem.Spec PyProof.Rows L2 TL PySem.StrLaws
/-! ### the functions are the model's -/
theorem tlS (s : String) : tl (Str.ofString s) = s.toList.map Char.toNat := tl_ofString s
theorem jn_tl (s : List Char) : ∀ ps : List (List Char), (jnC s ps).map Char.toNat = joinL (s.map Char.toNat) (ps.map (List.map Char.toNat))
  | [] => rfl
  | [p] => rfl
  | p :: q :: r => by
    show (p ++ (s ++ jnC s (q :: r))).map Char.toNat = p.map Char.toNat ++ (s.map Char.toNat ++ joinL (s.map Char.toNat) ((q :: r).map (List.map Char.toNat)))
    rw [List.map_append, List.map_append, jn_tl s (q :: r)]
theorem join_S (s : String) (ys : List String) : Txt.join (Str.ofString s) (ys.map Str.ofString) = Str.ofString (String.ofList (jnC s.toList (ys.map String.toList))) := by
  apply ext_tl
  rw [join_eq, tl_join, tlS, tlS, String.toList_ofList, jn_tl, List.map_map, List.map_map]
  congr 1
  exact List.map_congr_left fun y _ => tlS y
theorem toNat_inj {a b : Char} (h : a.toNat = b.toNat) : a = b := Char.ext (UInt32.toNat_inj.mp h)
theorem spC_ne (c : Char) : ∀ l : List Char, spC c l ≠ []
  | [] => by simp [spC]
  | x :: r => by
    unfold spC
    split
    · simp
    · split <;> simp
theorem spl_spC (c : Char) : ∀ (l : List Char) (acc : List Nat), spl [c.toNat] 0 acc (l.map Char.toNat) = (match spC c l with
    | [] => [acc]
    | p :: ps => (acc ++ p.map Char.toNat) :: ps.map (List.map Char.toNat))
  | [], acc => by simp [spC, spl_nil]
  | x :: r, acc => by
    by_cases h : x = c
    · subst h
      have e : spC x (x :: r) = [] :: spC x r := if_pos rfl
      have ps : pre [x.toNat] (x.toNat :: r.map Char.toNat) = true := pre_self [x.toNat] (r.map Char.toNat)
      rw [List.map_cons, spl_hit ps, e]
      show acc :: spl [x.toNat] 0 [] (r.map Char.toNat) = (acc ++ []) :: (spC x r).map (List.map Char.toNat)
      rw [spl_spC x r [], List.append_nil]
      cases q : spC x r with
      | nil => exact absurd q (spC_ne x r)
      | cons p ps => rfl
    · have hn : x.toNat ≠ c.toNat := fun z => h (toNat_inj z)
      rw [List.map_cons, spl_miss (pre_of_head [] _ hn), spl_spC c r]
      have e : spC c (x :: r) = (match spC c r with
        | [] => [[x]]
        | p :: ps => (x :: p) :: ps) := if_neg h
      rw [e]
      cases q : spC c r with
      | nil => exact absurd q (spC_ne c r)
      | cons p ps =>
        show (acc ++ [x.toNat] ++ p.map Char.toNat) :: _ = (acc ++ (x :: p).map Char.toNat) :: _
        rw [List.append_assoc] <;> rfl
theorem split_S {a b : String} {c : Char} (hb : b.toList = [c]) (hc : c.toNat < 256) : Txt.split (Str.ofString a) (Str.ofString b) = ((spC c a.toList).map fun l => String.ofList l).map Str.ofString := by
  have tb : tl (Str.ofString b) = [c.toNat] := by rw [tlS, hb]; rfl
  apply map_tl_inj
  rw [split_spl _ _ (by rw [tb]; simp) (kind_ok (by
    rw [← Array.all_toList]
    show (tl (Str.ofString b)).all (fun x => decide (x < 256)) = true
    rw [tb]
    simpa using hc)), tb, tlS, spl_spC, List.map_map, List.map_map]
  have key : ∀ ps : List (List Char), ps.map (List.map Char.toNat) = ps.map ((tl ∘ Str.ofString) ∘ fun l => String.ofList l) := fun ps => List.map_congr_left fun l _ => by
    show l.map Char.toNat = tl (Str.ofString (String.ofList l))
    rw [tlS, String.toList_ofList]
  cases q : spC c a.toList with
  | nil => exact absurd q (spC_ne c a.toList)
  | cons p ps =>
    show ([] ++ p.map Char.toNat) :: ps.map (List.map Char.toNat) = _
    rw [List.nil_append]
    exact key (p :: ps)
theorem strs_rep {K : Frag} {A : AS} {H : Hp} : ∀ {xs : List D} {ys : List String} {vs : List V}, strsOf xs = some ys → RepL K A H xs vs → vs = (ys.map Str.ofString).map V.str
  | [], ys, vs, h, r => by
    simp only [strsOf, Option.some.injEq] at h
    simp only [RepL] at r
    subst h
    rw [r]
    rfl
  | d :: xs, ys, vs, h, r => by
    simp only [RepL] at r
    obtain ⟨v, q, rfl, h1, h2⟩ := r
    cases d with
    | str s =>
      simp only [strsOf, Option.map_eq_some_iff] at h
      obtain ⟨zs, h3, rfl⟩ := h
      have hv : v = .str (Str.ofString s) := h1
      rw [hv, strs_rep h3 h2]
      rfl
    | _ => simp [strsOf] at h
theorem rep_strs {K : Frag} {A : AS} {H : Hp} : ∀ ys : List String, RepL K A H (ys.map D.str) ((ys.map Str.ofString).map V.str)
  | [] => by simp [RepL]
  | y :: ys => by
    simp only [List.map_cons, RepL]
    exact ⟨_, _, rfl, rfl, rep_strs ys⟩
section
variable {X : Cx} {W : WX} {A : AS} {H0 : Base} {ow : Ow} {tg o a b c e : Expr} {es : List Expr} {m mo ma mb : EM} {pos p apos : Pos}
theorem sum_lens (ys : List String) : ((ys.map Str.ofString).map (·.length)).sum = (ys.map String.length).sum := by
  rw [List.map_map]
  congr 1
  exact List.map_congr_left fun y _ => str_len y
theorem x_join (ho : PE X o (tW X.K W ow mo)) (ha : PE X a (tW X.K W ow ma)) (hs : starEach [a] X.env = [(false, eval a X.env)] := by rfl) (hbase : attributeBase o "join" X.env (eval o X.env) = eval o X.env := by rfl) (hline : (apos.endLine == pos.line) = true := by rfl) :
    PE X (.Call (.Attribute o "join" apos) [a] [] pos) (tE X.K W ow (mtx ojoin mo ma)) :=
  PE.of (pe_join ho ha hs hbase hline) fun σ H Q ⟨A, H0, O, en, R, q⟩ => ⟨A, H0, O, en, R, (Out.bind q).good fun d q1 v H1 s1 r1 => by
    cases d with
    | str s =>
      have hv : v = .str (Str.ofString s) := r1
      subst hv
      refine ⟨⟨_, rfl⟩, A, H0, O, en, R.to s1, ((Out.bind q1).to s1).good fun y q2 w H2 s2 r2 => ?_⟩
      have fin : ∀ xs : List D, Out (joinL9 s xs) (fun d => ∀ v H', Same H H' → Rep X.K (AO A O) H' d v → Q v H') (badE X.K W A O σ H) → ∃ ys, strsOf xs = some ys ∧ (ys.map String.length).sum + ys.length * s.length ≤ SZ ∧ Q (.str (Txt.join (Str.ofString s) (ys.map Str.ofString))) H2 := fun xs q3 => by
        unfold joinL9 at q3
        cases hy : strsOf xs with
        | none =>
          rw [hy] at q3
          exact q3.elim
        | some ys =>
          rw [hy] at q3
          have q4 : Out (if joinOk s ys = true then Res.ok (jnS s ys) else .stuck) _ _ := q3
          split at q4
          · rename_i ok
            have k : ∀ v H', Same H H' → Rep X.K (AO A O) H' (jnS s ys) v → Q v H' := q4
            refine ⟨ys, rfl, of_decide_eq_true ok, ?_⟩
            rw [join_S]
            exact k _ H2 (s1.trans s2) rfl
          · exact q4.elim
      cases y with
      | lst xs =>
        obtain ⟨l, vs, rfl, rd, r⟩ := r2
        obtain ⟨ys, hy, hz, k⟩ := fin xs q2
        refine ⟨_, l, ys.map Str.ofString, rfl, rfl, .inl (.inl ?_), ?_, k⟩
        · rw [← strs_rep hy r]
          exact rd
        · rw [sum_lens, List.length_map, str_len]
          exact hz
      | tup xs =>
        obtain ⟨l, vs, rfl, rd, r⟩ := (show ∃ a vs, w = .ref a ∧ SqT X.K H2 a vs ∧ RepL X.K (fun _ => False) H2 xs vs by
          have : Rep X.K (fun _ => False) H2 (.tup xs) w ∨ True := .inr trivial
          obtain ⟨a, vs, e, q, r⟩ := (by simpa only [RepW, Rep] using r2 : ∃ a vs, w = .ref a ∧ SqT X.K H2 a vs ∧ RepL X.K (AO A O) H2 xs vs)
          exact ⟨a, vs, e, q, RepL.move (Mv.less fun _ x => x.elim) _ _ r⟩)
        obtain ⟨ys, hy, hz, k⟩ := fin xs q2
        refine ⟨_, l, ys.map Str.ofString, rfl, rfl, .inr ?_, ?_, k⟩
        · rw [← strs_rep hy r]
          exact rd
        · rw [sum_lens, List.length_map, str_len]
          exact hz
      | _ => exact (show False from q2).elim
    | _ => exact (show False from q1).elim⟩
theorem f_split (ho : PE X o (tW X.K W ow mo)) (ha : PE X a (tW X.K W ow ma)) (hs : starEach [a] X.env = [(false, eval a X.env)] := by rfl) (hbase : attributeBase o "split" X.env (eval o X.env) = eval o X.env := by rfl) (hline : (apos.endLine == pos.line) = true := by rfl) :
    PE X (.Call (.Attribute o "split" apos) [a] [] pos) (tF X.K W ow (mtx osplit mo ma)) :=
  PE.of (pe_split ho ha hs hbase hline) fun σ H Q ⟨A, H0, O, en, R, q⟩ => ⟨A, H0, O, en, R, (Out.bind q).good fun d q1 v H1 s1 r1 => by
    cases d with
    | str s =>
      have hv : v = .str (Str.ofString s) := r1
      subst hv
      refine ⟨⟨_, rfl⟩, A, H0, O, en, R.to s1, ((Out.bind q1).to s1).good fun y q2 w H2 s2 r2 => ?_⟩
      cases y with
      | str b =>
        have hw : w = .str (Str.ofString b) := r2
        subst hw
        simp only [osplit] at q2
        split at q2
        · rename_i c hb
          split at q2
          · rename_i ok
            have k : ∀ p H', H p = none → Same H H' → OwnAt X.K (fun b => AO A O b ∨ b = p) H' p (.lst (spS c s)) → Q (.ref p) H' := q2
            refine ⟨_, _, rfl, rfl, ?_, ?_, fun p hp => ?_⟩
            · rw [str_len, ← String.length_toList, hb]
              rfl
            · rw [str_len]
              exact ok.1
            · rw [split_S hb ok.2]
              have st := s1.trans s2
              refine k p _ (st.free hp) (st.trans (new_same hp)) ⟨_, upd_same, ?_⟩
              have := rep_strs (K := X.K) (A := fun b => AO A O b ∨ b = p) (H := upd H2 p (.lst ((((spC c s.toList).map fun l => String.ofList l).map Str.ofString).map V.str))) ((spC c s.toList).map fun l => String.ofList l)
              have e : ((spC c s.toList).map fun l => String.ofList l).map D.str = spS c s := by
                unfold spS
                rw [List.map_map]
                rfl
              rw [e] at this
              exact this
          · exact q2.elim
        · exact q2.elim
      | _ => exact (show False from q2).elim
    | _ => exact (show False from q1).elim⟩
/-! ### f-strings -/
/-! ### int of a text, a sign in a text, the signs -/
theorem dgV_is (l : List Char) : NumText.digitsVal (l.map Char.toNat) = dgV l := by
  unfold NumText.digitsVal dgV
  rw [List.foldl_map]
theorem v_intx : CallR X (.type "int") (c1 X.K bintx) := fun pins s σ H xs us Q I rx q => by
  obtain ⟨x, e0, A, d1, d, h1, ha, e, k⟩ := id q
  cases d1 with
  | str t =>
    have hv : x = .str (Str.ofString t) := h1
    simp only [bintx] at e
    split at e
    · rename_i ok
      rw [Bool.and_eq_true, decide_eq_true_eq] at ok
      unfold dgs at ok
      simp only [Bool.and_eq_true, Bool.not_eq_true', List.all_eq_true, decide_eq_true_eq] at ok
      cases e
      have it : PySem.intText? (Str.ofString t) = some ((dgV t.toList : Nat) : Int) := by
        have := intText_digits (x := Str.ofString t) (by
          show NumText.AllDigits (tl (Str.ofString t))
          rw [tlS]
          intro c hc
          obtain ⟨z, hz, rfl⟩ := List.mem_map.mp hc
          exact ok.1.2 z hz) (by
          show tl (Str.ofString t) ≠ []
          rw [tlS]
          intro hn
          have := List.map_eq_nil_iff.mp hn
          rw [this] at ok
          simp at ok) (by rw [str_len]; omega)
        rw [this]
        congr 2
        show NumText.digitsVal (tl (Str.ofString t)) = _
        rw [tlS, dgV_is]
      exact call_int_str pins s σ H xs us Q I rx ⟨_, _, by rw [e0, hv], it, by rw [str_len]; exact ok.2, k _ H (Same.refl H) (flat_rep (d := .int _) rfl _ _)⟩
    · cases e
  | int i => exact v_int pins s σ H xs us Q I rx ⟨x, e0, A, .int i, d, h1, ha, e, k⟩
  | bl i => exact v_int pins s σ H xs us Q I rx ⟨x, e0, A, .bl i, d, h1, ha, e, k⟩
  | _ => simp [bintx] at e
theorem n_intx : NoEx1 bintx := fun x c fs => by cases x <;> simp only [bintx] <;> first | (split <;> rfl) | rfl
theorem y_inS : OpR X (compareOp .In) (r2 X.K oinS) := imp2 op_in_sign fun x y H Q ⟨A, d1, d2, d, h1, h2, _, e, k⟩ => by
  cases d1 with
  | str s =>
    cases d2 with
    | str t =>
      have hx : x = .str (Str.ofString s) := h1
      have hy : y = .str (Str.ofString t) := h2
      simp only [oinS] at e
      split at e
      · rename_i c hs
        cases e
        have e1 : Str.ofString s = ⟨#[c.toNat]⟩ := by
          apply ext_tl
          rw [tlS, hs]
          rfl
        refine ⟨c.toNat, _, by rw [hx, e1], hy, ?_⟩
        have e2 : decide (c.toNat ∈ (Str.ofString t).cps.toList) = decide (c ∈ t.toList) := by
          apply decide_eq_decide.mpr
          show c.toNat ∈ tl (Str.ofString t) ↔ _
          rw [tlS, List.mem_map]
          exact ⟨fun ⟨z, hz, ez⟩ => by rw [← toNat_inj ez]; exact hz, fun h => ⟨c, h, rfl⟩⟩
        rw [e2]
        exact k _ H (Same.refl H) (flat_rep (d := .bl _) rfl _ _)
      · cases e
    | _ => simp [oinS] at e
  | _ => simp [oinS] at e
theorem n_inS : NoEx2 oinS := fun x y c fs => by
  cases x <;> cases y <;> simp only [oinS] <;> first | (split <;> rfl) | rfl
theorem itm_str {K : Frag} {A : AS} {H : Hp} (s : String) : Itm Mv K A (Its (Str.ofString s)) (s.toList.map fun c => D.str (String.ofList [c])) H := fun i A2 H2 m => by
  have sz : (Str.ofString s).cps.size = s.toList.length := by
    have := congrArg List.length (tlS s)
    rw [List.length_map] at this
    rw [← this]
    simp [tl]
  refine ⟨fun hi => ?_, fun hi => ?_⟩
  · rw [List.length_map] at hi
    refine ⟨show i < _ by rw [sz]; exact hi, fun x H3 ⟨eH, c, hc, ex⟩ => ?_⟩
    subst eH ex
    refine ⟨Same.refl _, .str (String.ofList [s.toList[i]]), by rw [List.getElem?_map, List.getElem?_eq_getElem hi]; rfl, ?_⟩
    show V.str _ = V.str (Str.ofString (String.ofList [s.toList[i]]))
    congr 1
    apply ext_tl
    rw [tlS, String.toList_ofList]
    have h2 : (tl (Str.ofString s))[i]? = some c := by
      show (Str.ofString s).cps.toList[i]? = some c
      rw [Array.getElem?_toList]
      exact hc
    rw [tlS, List.getElem?_map, List.getElem?_eq_getElem hi] at h2
    have h3 : (s.toList[i]).toNat = c := Option.some.inj h2
    rw [← h3]
    rfl
  · rw [List.length_map] at hi
    show _ ≤ i
    rw [sz, hi]
    exact Nat.le_refl _
theorem i_str (ha : PE X a (tE X.K W ow ma)) : PI X tg a (tI Mv X.K W ow (istr ma)) :=
  PI.of (pi_str ha) fun σ H R' ⟨A, H0, O, en, R, q⟩ => ⟨A, H0, O, en, R, (Out.bind q).good fun d q1 v H1 s1 r1 => by
    cases d with
    | str s =>
      have hv : v = .str (Str.ofString s) := r1
      have q2 : ∀ J H', Same H H' → Itm Mv X.K (AO A O) J (s.toList.map fun c => D.str (String.ofList [c])) H' → R' J H' := q1
      exact ⟨_, hv, q2 _ H1 s1 (itm_str s)⟩
    | _ => exact (show False from q1).elim⟩
end
end Py
/-! Every other item of a list: xs[::2], xs[k::2]. -/
namespace Py
open PySem PySem.Spec PyProof.Rows L2
theorem ev2_pick {α : Type} : ∀ l : List α, (List.range ((l.length + 1) / 2)).filterMap (fun k => l[2 * k]?) = ev2 l
  | [] => by simp [ev2]
  | [x] => by simp [ev2, List.range_succ]
  | x :: y :: r => by
    have e : ((x :: y :: r).length + 1) / 2 = (r.length + 1) / 2 + 1 := by
      simp only [List.length_cons]
      omega
    have ih := ev2_pick r
    rw [e, List.range_succ_eq_map, List.filterMap_cons]
    show x :: ((List.range ((r.length + 1) / 2)).map Nat.succ).filterMap _ = x :: ev2 r
    rw [List.filterMap_map, ← ih]
    congr 1
theorem sliceRange_two (a n : Nat) (h : a ≤ n) : sliceRange (a : Int) (n : Int) 2 = (List.range ((n - a + 1) / 2)).map fun k => a + 2 * k := by
  unfold sliceRange
  have h1 : (2 : Int) > 0 := by decide
  by_cases c : (a : Int) < (n : Int)
  · have e : ((n : Int) - a + 2 - 1) / 2 = (((n - a + 1) / 2 : Nat) : Int) := by omega
    simp only [h1, if_true, c, e, Int.toNat_natCast]
    apply List.map_congr_left
    intro k _
    omega
  · have e : (n - a + 1) / 2 = 0 := by omega
    simp [c, e]
theorem pick_two (its : List Value) (lv : Option Int) (k : Nat) (hb : ∀ n : Nat, sliceBounds lv none (some 2) n = (((min k n : Nat) : Int), (n : Int), 2)) : slicePick its.toArray lv none (some 2) = (ev2 (its.drop k)).toArray := by
  unfold slicePick
  rw [hb, List.size_toArray]
  show ((sliceRange ((min k its.length : Nat) : Int) (its.length : Int) 2).filterMap _).toArray = _
  rw [sliceRange_two _ _ (Nat.min_le_right _ _), List.filterMap_map]
  congr 1
  rw [← ev2_pick]
  have e : its.length - min k its.length = (its.drop k).length := by
    rw [List.length_drop]
    omega
  rw [e]
  have fc : ∀ (l : List Nat) (f g : Nat → Option Value), (∀ j ∈ l, f j = g j) → l.filterMap f = l.filterMap g := fun l f g h => by
    induction l with
    | nil => rfl
    | cons a r ih => rw [List.filterMap_cons, List.filterMap_cons, h a List.mem_cons_self, ih fun j hj => h j (List.mem_cons_of_mem _ hj)]
  refine fc _ _ _ fun j hj => ?_
  have hj' := List.mem_range.mp hj
  show its.toArray[min k its.length + 2 * j]? = (its.drop k)[2 * j]?
  rw [List.getElem?_toArray, List.getElem?_drop]
  by_cases c : k ≤ its.length
  · rw [Nat.min_eq_left c]
  · rw [List.getElem?_eq_none (by omega), List.getElem?_eq_none (by omega)]
theorem vals_ev2 : ∀ {xs : List V} {its : List Value}, Vals xs its → Vals (ev2 xs) (ev2 its) := fun {xs} => by
  induction xs using ev2.induct with
  | case1 =>
    intro its h
    cases h
    exact .nil
  | case2 x =>
    intro its h
    cases h with
    | cons r t =>
      cases t
      exact .cons r .nil
  | case3 x y r ih =>
    intro its h
    cases h with
    | cons r1 t =>
      cases t with
      | cons r2 t2 => exact .cons r1 (ih t2)
theorem ev2_len {α : Type} : ∀ l : List α, (ev2 l).length ≤ l.length := fun l => by
  induction l using ev2.induct with
  | case1 => exact Nat.le_refl _
  | case2 x => exact Nat.le_refl _
  | case3 x y r ih =>
    show (ev2 r).length + 1 ≤ r.length + 1 + 1
    omega
section
variable {X : Cx} {W : WX} {ow : Ow} {a e : Expr} {ma : EM} {te : TE}
def tStp (K : PySem.W.Frag) (k : Nat) (te : TE) : TE := fun σ H Q => te σ H fun x H1 => ∃ a xs, x = .ref a ∧ SqL K H1 a xs ∧ ∀ p, H1 p = none → Q (.ref p) (upd H1 p (.lst (ev2 (xs.drop k))))
theorem pe_stp {lo : Option Expr} {tl : L2.St → Hp → (Option Int → Hp → Prop) → Prop} {lv : Option Int} {k j : Nat} {p1 p3 pos : Pos} (he : PE X e te) (hl : PO X lo tl) (hv : ∀ σ H, tl σ H (fun o H2 => o = lv ∧ H2 = H))
    (hb : ∀ n : Nat, sliceBounds lv none (some 2) n = (((min k n : Nat) : Int), (n : Int), 2)) : PE X (.Subscript e (.Slice lo none (some (.Constant (.int 2) j p1)) p3) pos) (tStp X.K k te) := by
  refine ⟨fun pins s σ H Q I h => ?_⟩
  refine Subscript_ (thn (he.run pins s σ H _ I h) fun v s1 ⟨x, H1, I1, r1, q1⟩ => ?_)
  obtain ⟨a, xs, ex, hx, q⟩ := q1
  subst ex
  cases r1
  have hst : PO X (some (.Constant (.int 2) j p1)) (tPart (tC (.int 2))) := po_some pe_int
  refine wpAny_Slice (thn (hl.run pins s1 σ H1 (fun o H2 => o = lv ∧ H2 = H1) I1 (hv _ _)) fun vl s2 ⟨l, H2, I2, pl, el, e2⟩ => ?_)
  subst el e2
  refine thn (po_none.run pins s2 σ H2 (fun o H3 => o = none ∧ H3 = H2) I2 ⟨rfl, rfl⟩) fun vu s3 ⟨u, H3, I3, pu, eu, e3⟩ => ?_
  subst eu e3
  refine thn (hst.run pins s3 σ H3 (fun o H4 => o = some 2 ∧ H4 = H3) I3 ⟨2, rfl, rfl, rfl⟩) fun vs s4 ⟨o, H4, I4, ps, eo, e4⟩ => ?_
  subst eo e4
  have I5 : Inv X pins σ H4 { s4 with heap := s4.heap.push { cls := .type "slice", data := .fields #[vl, vu, vs] } } := I4.kept (t' := s4.toks) fun b ob q => Heap.get?_push_of_some _ q
  obtain ⟨its, r, ht, hz⟩ := I5.list hx
  have hlen := r.length
  show wpAny (model X.prog X.w) X.A (subscriptTail e (.Slice lo none (some (.Constant (.int 2) j p1)) p3) (.ref a) (.ref s4.heap.objs.size)) (EP X pins σ Q) X.xe { s4 with heap := s4.heap.push { cls := .type "slice", data := .fields #[vl, vu, vs] } }
  refine PyProof.Rows.tail_any (ops := [.ref a, .ref s4.heap.objs.size]) ht.isList.typeIs (PySem.slot_list_getitem.lookup) ?_ (by with_unfolding_all rfl)
  refine wpAny_getItem_list_slice ht.isList (Heap.IsSliceOf.new _ vl vu vs) pl pu ps (by decide) ?_ (by rw [List.size_toArray]; omega)
  rw [pick_two its l k hb]
  refine ⟨.ref _, _, I5.laid (t' := s4.toks) (o := .lst (ev2 (xs.drop k))) (fun b ob q => Heap.get?_push_of_some _ q) (Nat.le_refl _) ?_, rfl, q _ (I5.hok.fresh (Nat.le_refl _))⟩
  exact ⟨Nat.le_trans (ev2_len _) (by rw [List.length_drop]; omega), _, 0, vals_ev2 (r.drop k), Heap.get?_push_size _ rfl⟩
theorem repL_ev2 {K : Frag} {A : AS} {H : Hp} : ∀ {xs : List D} {vs : List V}, RepL K A H xs vs → RepL K A H (ev2 xs) (ev2 vs) := fun {xs} => by
  induction xs using ev2.induct with
  | case1 =>
    intro vs h
    simp only [RepL] at h
    subst h
    simp [ev2, RepL]
  | case2 x =>
    intro vs h
    simp only [RepL] at h
    obtain ⟨v, r, rfl, h1, rfl⟩ := h
    simp only [ev2, RepL]
    exact ⟨_, _, rfl, h1, rfl⟩
  | case3 x y r ih =>
    intro vs h
    simp only [RepL] at h
    obtain ⟨v, q, rfl, h1, v2, q2, rfl, h2, h3⟩ := h
    simp only [ev2, RepL]
    exact ⟨_, _, rfl, h1, ih h3⟩
theorem repL_drop {K : Frag} {A : AS} {H : Hp} : ∀ (k : Nat) {xs : List D} {vs : List V}, RepL K A H xs vs → RepL K A H (xs.drop k) (vs.drop k)
  | 0, _, _, h => h
  | k + 1, [], vs, h => by
    simp only [RepL] at h
    subst h
    simp [RepL]
  | k + 1, x :: xs, vs, h => by
    simp only [RepL] at h
    obtain ⟨v, q, rfl, _, h2⟩ := h
    exact repL_drop k h2
theorem f_evO {lo : Option Expr} {k j : Nat} {p1 p3 pos : Pos} (h : PE X (.Subscript a (.Slice lo none (some (.Constant (.int 2) j p1)) p3) pos) (tStp X.K k (tW X.K W ow ma))) : PE X (.Subscript a (.Slice lo none (some (.Constant (.int 2) j p1)) p3) pos) (tF X.K W ow (un (oev2 k) ma)) :=
  PE.of h fun σ H Q ⟨A, H0, O, en, R, q⟩ => ⟨A, H0, O, en, R, (Out.bind q).good fun d q1 v H1 s1 r1 => by
    cases d with
    | lst xs =>
      obtain ⟨l, vs, e1, rd, rl⟩ := r1
      have q2 : ∀ p H', H p = none → Same H H' → OwnAt X.K (fun b => AO A O b ∨ b = p) H' p (.lst (ev2 (xs.drop k))) → Q (.ref p) H' := q1
      refine ⟨l, vs, e1, .inl rd, fun p hp => ?_⟩
      refine q2 p _ (s1.free hp) (s1.trans (new_same hp)) ⟨_, upd_same, ?_⟩
      refine RepL.move ⟨fun b hb => ?_, fun b o e _ => new_same hp b o e⟩ _ _ (repL_ev2 (repL_drop k rl))
      rcases hb with hb | rfl
      · exact .inl hb
      · exact .inr hp
    | _ => exact (show False from q1).elim⟩
theorem f_ev0 {j : Nat} {p1 p3 pos : Pos} (ha : PE X a (tW X.K W ow ma)) : PE X (.Subscript a (.Slice none none (some (.Constant (.int 2) j p1)) p3) pos) (tF X.K W ow (un (oev2 0) ma)) :=
  f_evO (pe_stp (lv := none) ha po_none (fun _ _ => ⟨rfl, rfl⟩) fun n => by simp [sliceBounds])
theorem f_evK {k j j2 : Nat} {p0 p1 p3 pos : Pos} (ha : PE X a (tW X.K W ow ma)) : PE X (.Subscript a (.Slice (some (.Constant (.int (k : Nat)) j2 p0)) none (some (.Constant (.int 2) j p1)) p3) pos) (tF X.K W ow (un (oev2 k) ma)) :=
  f_evO (pe_stp (lv := some (k : Int)) ha (po_some pe_int) (fun _ _ => ⟨_, rfl, rfl, rfl⟩) fun n => by
    have h : ¬ ((k : Int) < 0) := by omega
    simp only [sliceBounds, Option.getD_some, h, if_false, show (2 : Int) > 0 by decide, if_true]
    congr 1
    omega)
end
end Py
/-! max of a tuple. -/
namespace Py
open PySem PySem.Spec PyProof.Rows L2
theorem hold_ints {h : Heap} : ∀ {ns : List Int} {its : List Value}, Vals (ns.map V.int) its → PySem.W.HoldAll h its ns
  | [], its, r => by
    cases r
    exact ⟨[], .nil⟩
  | n :: ns, its, r => by
    cases r with
    | cons r1 t =>
      obtain ⟨tk, rfl⟩ := r1
      obtain ⟨as, q⟩ := hold_ints t
      exact ⟨[] ++ as, .cons (.int n tk) q⟩
theorem maxOf_int (i : Int) (is : List Int) : PySem.W.maxOf i is = is.foldl (fun a b => if b > a then b else a) i := by
  unfold PySem.W.maxOf
  congr 1
  funext a y
  show (if decide (a < y) = true then y else a) = _
  by_cases c : a < y
  · rw [if_pos (decide_eq_true c), if_pos c]
  · rw [if_neg (by simpa using c), if_neg c]
theorem v_maxT {X : Cx} (hc : X.calm = true) (hu : X.A.units + 16 < cLine) : CallR X (.builtin "max") (c1 X.K bmaxT) := fun pins s σ H xs us Q I rx q => by
  obtain ⟨x, e0, A, d1, d, h1, ha, e, k⟩ := id q
  have lst : ∀ d1, d1 = d1 → (∀ ys, d1 ≠ .tup ys) → bmaxT d1 = bmaxL d1 := fun d1 _ hn => by
    cases d1 <;> first | rfl | exact absurd rfl (hn _)
  cases d1 with
  | tup ds =>
    simp only [bmaxT] at e
    split at e
    · rename_i i is hi
      cases e
      obtain ⟨a, vs, rfl, hs, r⟩ := (by simpa only [RepW, Rep] using h1 : ∃ a vs, x = .ref a ∧ SqT X.K H a vs ∧ RepL X.K A H ds vs)
      have e1 := ints_of r hi
      subst e1
      obtain ⟨its, rv, ht, hz⟩ := I.tuple hs
      subst e0
      rw [Vals.ref1 rx]
      refine PySem.W.max_tuple_datum (α := Int) (x := i) (xs := is) (I.ok.hd hc) (show s.heap.IsTuple a its.toArray from ht) (by simpa using hold_ints (h := s.heap) rv) (by show X.A.units + 1 + 0 < cLine; omega) fun j v h' tk hj hv hk => ?_
      obtain ⟨as, hr⟩ := hv
      have hr2 : PySem.Reads h' v (.int (PySem.W.maxOf i is)) as := hr
      cases hr2
      refine ⟨.int (PySem.W.maxOf i is), H, I.kept (t' := tk) hk, ⟨_, rfl⟩, ?_⟩
      rw [maxOf_int]
      exact k _ H (Same.refl H) (flat_rep (d := .int _) rfl _ _)
    · cases e
  | lst ds => exact v_maxL hc pins s σ H xs us Q I rx ⟨x, e0, A, .lst ds, d, h1, ha, e, k⟩
  | _ => cases e
theorem n_maxT : NoEx1 bmaxT := fun x c fs => by cases x <;> simp only [bmaxT, bmaxL] <;> first | (split <;> rfl) | rfl
end Py
/-! One sign not in a text. -/
namespace Py
open PySem PySem.Spec PyProof.Rows L2 TL PySem.StrLaws
section
variable {X : Cx}
theorem y_notinS : OpR X (compareOp .NotIn) (r2 X.K onotinS) := imp2 op_notIn_sign fun x y H Q ⟨A, d1, d2, d, h1, h2, _, e, k⟩ => by
  cases d1 with
  | str s =>
    cases d2 with
    | str t =>
      have hx : x = .str (Str.ofString s) := h1
      have hy : y = .str (Str.ofString t) := h2
      simp only [onotinS] at e
      split at e
      · rename_i c hs
        cases e
        have e1 : Str.ofString s = ⟨#[c.toNat]⟩ := by
          apply ext_tl
          rw [tlS, hs]
          rfl
        refine ⟨c.toNat, _, by rw [hx, e1], hy, ?_⟩
        have e2 : decide (c.toNat ∈ (Str.ofString t).cps.toList) = decide (c ∈ t.toList) := by
          apply decide_eq_decide.mpr
          show c.toNat ∈ tl (Str.ofString t) ↔ _
          rw [tlS, List.mem_map]
          exact ⟨fun ⟨z, hz, ez⟩ => by rw [← toNat_inj ez]; exact hz, fun h => ⟨c, h, rfl⟩⟩
        rw [e2]
        exact k _ H (Same.refl H) (flat_rep (d := .bl _) rfl _ _)
      · cases e
    | _ => simp [onotinS] at e
  | _ => simp [onotinS] at e
theorem n_notinS : NoEx2 onotinS := fun x y c fs => by
  cases x <;> cases y <;> simp only [onotinS] <;> first | (split <;> rfl) | rfl
end
theorem b_inS : ∀ x y d, oinS x y = .ok d → ∃ k, d = .bl k := fun x y d h => by
  cases x <;> cases y <;> simp only [oinS, reduceCtorEq] at h <;> split at h <;> simp only [Res.ok.injEq, reduceCtorEq] at h <;> exact ⟨_, h.symm⟩
theorem b_notinS : ∀ x y d, onotinS x y = .ok d → ∃ k, d = .bl k := fun x y d h => by
  cases x <;> cases y <;> simp only [onotinS, reduceCtorEq] at h <;> split at h <;> simp only [Res.ok.injEq, reduceCtorEq] at h <;> exact ⟨_, h.symm⟩
end Py
namespace Py
def b__law_pick : SM :=
  (seq (ite (tst (bin ogt (bin oidx (var 0) (cst (.int 2))) (cst (.int 1)))) (seq (asg (gnm 2) (bin omod (un bint (bin oidx (var 0) (cst (.int 2)))) (var 1)))
  (seq (setL 0 (cst (.int 2)) (bin ofdiv (bin oidx (var 0) (cst (.int 2))) (var 1)))
  (retB (var 2)))) skip)
  (seq (asg (gnm 3) (cst (.int 0)))
  (seq (ite (tst (bin olt (bin oidx (var 0) (cst (.int 1))) (un blenC (bin oidx (var 0) (cst (.int 0)))))) (seq (asg (gnm 3) (bin oidxC (bin oidx (var 0) (cst (.int 0))) (bin oidx (var 0) (cst (.int 1)))))
  (setL 0 (cst (.int 1)) (bin oadd (bin oidx (var 0) (cst (.int 1))) (cst (.int 1))))) skip)
  (seq (ite (tst (bin ogt (var 3) (bin oadd (bin opow (cst (.int 10)) (cst (.int 18))) (cst (.int 1))))) (seq (asg (gnm 3) (bin osub (var 3) (bin opow (cst (.int 10)) (cst (.int 18)))))
  (seq (setL 0 (cst (.int 2)) (bin ofdiv (var 3) (var 1)))
  (retB (bin omod (un bint (var 3)) (var 1))))) skip)
  (seq (setL 0 (cst (.int 3)) (bin omod (un bint (bin oadd (bin oadd (bin omul (bin oidx (var 0) (cst (.int 3))) (cst (.int 48271))) (bin omul (var 3) (cst (.int 69621)))) (cst (.int 11)))) (cst (.int 2147483647))))
  (retB (bin omod (bin ofdiv (bin omod (un bint (bin oadd (bin omul (bin oidx (var 0) (cst (.int 3))) (bin oidx (var 0) (cst (.int 3)))) (bin omul (bin oidx (var 0) (cst (.int 3))) (cst (.int 7919))))) (cst (.int 998244353))) (cst (.int 7))) (var 1))))))))
abbrev m_law_pick : List D → Res D := pickF false
def b__law_word : SM :=
  (seq (asg (gnm 2) (lstE (argC (cst (.str "0")) (argC (cst (.str "1")) (argC (cst (.str "2")) (argC (cst (.str "3")) (argC (cst (.str "4")) (argC (cst (.str "5")) (argC (cst (.str "6")) (argC (cst (.str "00")) (argC (cst (.str "01")) (argC (cst (.str "1000000")) (argC (cst (.str "-1")) (argC (cst (.str "+1")) (argC (cst (.str "x")) (argC (cst (.str "")) (argC (cst (.str "zero")) (argC (cst (.str "ones")) (argC (cst (.str "not")) (argC (cst (.str "and")) argN))))))))))))))))))))
  (seq (asg (gnm 2) (bin oadd (var 2) (lstE (argC (cst (.str "shift")) (argC (cst (.str "count")) (argC (cst (.str "add")) (argC (cst (.str "row")) (argC (cst (.str "machine")) (argC (cst (.str "Not")) (argC (cst (.str "1.0")) (argC (cst (.str "1_0")) (argC (cst (.str "7")) (argC (cst (.str "9")) (argC (cst (.str "400")) (argC (cst (.str "100")) (argC (cst (.str "123")) (argC (cst (.str "1__0")) argN)))))))))))))))))
  (seq (asg (gnm 2) (bin oadd (var 2) (lstE (argC (un bstr (call m_law_pick (argC (var 0) (argC (cst (.int 140)) argN)))) (argC (un bstr (bin oadd (cst (.int 100)) (call m_law_pick (argC (var 0) (argC (cst (.int 900)) argN))))) (argC (cst (.str "0x1")) (argC (cst (.str "1e1")) (argC (cst (.str "--1")) (argC (cst (.str "0+1")) (argC (cst (.str "_1")) (argC (cst (.str "010")) argN)))))))))))
  (seq (asg (gnm 3) (call m_law_pick (argC (var 0) (argC (cst (.int 3)) argN))))
  (seq (ite (andT (tst (bin oeq (var 3) (cst (.int 0)))) (andT (tst (bin Py.one (var 1) (cst (.str "")))) (andT (tst (bin olt (un blen (var 1)) (cst (.int 7)))) (tst (bin oeq (un blen (lcE (istr (var 1)) [4] (gnm 4) (tst (bin oinS (var 4) (cst (.str "0123456789")))) (var 4))) (un blen (var 1))))))) (ret (un bstr (bin oadd (un bintx (var 1)) (cst (.int 1))))) skip)
  (seq (ite (tst (bin oeq (var 3) (cst (.int 1)))) (ret (bin oadd (bin oidx (tupE (argC (cst (.str "0")) (argC (cst (.str "+")) (argC (cst (.str "0_")) (argC (cst (.str "-")) (argC (cst (.str "+")) argN)))))) (call m_law_pick (argC (var 0) (argC (cst (.int 5)) argN)))) (var 1))) skip)
  (ret (bin oidx (var 2) (call m_law_pick (argC (var 0) (argC (un blen (var 2)) argN)))))))))))
def m_law_word : List D → Res D := fn 2 5 b__law_word
def b__law_line : SM :=
  (seq (asg (gnm 2) (mtx osplit (var 1) (cst (.str " "))))
  (seq (asg (gnm 3) (call m_law_pick (argC (var 0) (argC (un blen (var 2)) argN))))
  (seq (asg (gnm 4) (call m_law_pick (argC (var 0) (argC (cst (.int 5)) argN))))
  (seq (ite (tst (bin oeq (var 4) (cst (.int 0)))) (asg (gnm 2) (bin oadd (slc (var 2) none (some (var 3))) (slc (var 2) (some (bin oadd (var 3) (cst (.int 1)))) none))) (ite (tst (bin oeq (var 4) (cst (.int 1)))) (asg (gnm 2) (bin oadd (bin oadd (slc (var 2) none (some (var 3))) (lstE (argC (bin oidx (var 2) (var 3)) argN))) (slc (var 2) (some (var 3)) none))) (setL 2 (var 3) (call m_law_word (argC (var 0) (argC (bin oidx (var 2) (var 3)) argN))))))
  (ret (mtx ojoin (cst (.str " ")) (var 2)))))))
def m_law_line : List D → Res D := fn 2 5 b__law_line
def b__law_changed : SM :=
  (seq (asg (gnm 2) (call m_law_pick (argC (var 0) (argC (cst (.int 8)) argN))))
  (seq (asg (gnm 3) (call m_law_pick (argC (var 0) (argC (bin oadd (un blen (var 1)) (cst (.int 1))) argN))))
  (seq (ite (tst (bin oeq (var 2) (cst (.int 0)))) (ret (bin oadd (bin oadd (slc (var 1) none (some (var 3))) (bin oidx (tupE (argC (cst (.str " ")) (argC (cst (.str "\n")) (argC (cst (.str "\t")) (argC (cst (.str ";")) (argC (cst (.str "0")) (argC (cst (.str "a")) argN))))))) (call m_law_pick (argC (var 0) (argC (cst (.int 6)) argN))))) (slc (var 1) (some (var 3)) none))) skip)
  (seq (ite (tst (bin oeq (var 2) (cst (.int 1)))) (ret (bin oadd (slc (var 1) none (some (var 3))) (slc (var 1) (some (bin oadd (var 3) (cst (.int 1)))) none))) skip)
  (seq (ite (tst (bin oeq (var 2) (cst (.int 2)))) (ret (slc (var 1) none (some (var 3)))) skip)
  (seq (asg (gnm 4) (mtx osplit (var 1) (cst (.str "\n"))))
  (seq (asg (gnm 5) (call m_law_pick (argC (var 0) (argC (un blen (var 4)) argN))))
  (seq (ite (tst (bin oeq (var 2) (cst (.int 3)))) (seq (asg (gnm 6) (call m_law_pick (argC (var 0) (argC (un blen (var 4)) argN))))
  (seq (asg (gnm 7) (bin oidx (var 4) (var 5)))
  (seq (setL 4 (var 5) (bin oidx (var 4) (var 6)))
  (setL 4 (var 6) (var 7))))) (ite (tst (bin oeq (var 2) (cst (.int 4)))) (asg (gnm 4) (bin oadd (slc (var 4) none (some (var 5))) (slc (var 4) (some (bin oadd (var 5) (cst (.int 1)))) none))) (ite (tst (bin oeq (var 2) (cst (.int 5)))) (seq (asg (gnm 8) (lstE (argC (bin oidx (var 4) (var 5)) (argC (cst (.str "")) (argC (cst (.str "zero")) (argC (cst (.str "not 0")) (argC (cst (.str "0 0 0 0")) (argC (cst (.str "row 1 0 0")) (argC (cst (.str " ")) argN)))))))))
  (asg (gnm 4) (bin oadd (bin oadd (slc (var 4) none (some (var 5))) (lstE (argC (bin oidx (var 8) (call m_law_pick (argC (var 0) (argC (cst (.int 7)) argN)))) argN))) (slc (var 4) (some (var 5)) none)))) (setL 4 (var 5) (call m_law_line (argC (var 0) (argC (bin oidx (var 4) (var 5)) argN)))))))
  (ret (mtx ojoin (cst (.str "\n")) (var 4)))))))))))
def m_law_changed : List D → Res D := fn 2 9 b__law_changed
def b__law_deed_line : SM :=
  (seq (asg (gnm 2) (tupE (argC (cst (.str "zero")) (argC (cst (.str "ones")) (argC (cst (.str "not")) (argC (cst (.str "and")) (argC (cst (.str "or")) (argC (cst (.str "xor")) (argC (cst (.str "shift")) (argC (cst (.str "minus")) (argC (cst (.str "add")) (argC (cst (.str "sub")) (argC (cst (.str "count")) argN)))))))))))))
  (seq (asg (gnm 3) (bin oidx (var 2) (call m_law_pick (argC (var 0) (argC (cst (.int 11)) argN)))))
  (seq (ite (tst (bin oin (var 3) (tupE (argC (cst (.str "zero")) (argC (cst (.str "ones")) argN))))) (ret (var 3)) skip)
  (seq (asg (gnm 4) (lstE (argC (call m_law_pick (argC (var 0) (argC (var 1) argN))) argN)))
  (seq (ite (tst (bin oeq (var 3) (cst (.str "count")))) (seq (asg (gnm 5) (bin oidx (tupE (argC (cst (.int 2)) (argC (cst (.int 3)) (argC (cst (.int 5)) argN)))) (call m_law_pick (argC (var 0) (argC (cst (.int 3)) argN)))))
  (seq (asg (gnm 4) (lstE (argC (var 5) (argC (call m_law_pick (argC (var 0) (argC (var 5) argN))) (argC (bin oidx (var 4) (cst (.int 0))) argN)))))
  (for_ (irng1 (call m_law_pick (argC (var 0) (argC (cst (.int 4)) argN)))) (gnm 6) (app 4 (call m_law_pick (argC (var 0) (argC (var 1) argN))))))) (ite (tst (bin onotin (var 3) (tupE (argC (cst (.str "not")) (argC (cst (.str "shift")) (argC (cst (.str "minus")) argN)))))) (app 4 (call m_law_pick (argC (var 0) (argC (var 1) argN)))) skip))
  (ret (mtx ojoin (cst (.str " ")) (bin oadd (lstE (argC (var 3) argN)) (lcE (iseq (var 4)) [7] (gnm 7) yes (un bstr (var 7)))))))))))
def m_law_deed_line : List D → Res D := fn 2 8 b__law_deed_line
def b__law_lines : SM :=
  (seq (asg (gnm 1) (bin oadd (cst (.int 1)) (call m_law_pick (argC (var 0) (argC (cst (.int 3)) argN)))))
  (seq (asg (gnm 2) (bin oeq (call m_law_pick (argC (var 0) (argC (cst (.int 12)) argN))) (cst (.int 0))))
  (seq (ite (tst (bin oeq (call m_law_pick (argC (var 0) (argC (cst (.int 2)) argN))) (cst (.int 0)))) (seq (asg (gnm 3) (call m_law_pick (argC (var 0) (argC (cst (.int 7)) argN))))
  (seq (ite (tst (var 2)) (asg (gnm 3) (bin oadd (cst (.int 90)) (call m_law_pick (argC (var 0) (argC (cst (.int 40)) argN))))) skip)
  (seq (asg (gnm 4) (lstE (argC (bin oadd (bin oadd (bin oadd (bin oadd (bin oadd (cst (.str "row ")) (un bstr (var 1))) (cst (.str " "))) (un bstr (var 3))) (cst (.str " "))) (un bstr (call m_law_pick (argC (var 0) (argC (bin oadd (var 1) (var 3)) argN))))) argN)))
  (seq (for_ (irng1 (var 3)) (gnm 5) (app 4 (call m_law_deed_line (argC (var 0) (argC (bin oadd (var 1) (var 5)) argN)))))
  (ret (var 4)))))) skip)
  (seq (asg (gnm 3) (bin oadd (cst (.int 1)) (call m_law_pick (argC (var 0) (argC (cst (.int 5)) argN)))))
  (seq (ite (tst (var 2)) (seq (asg (gnm 1) (cst (.int 1)))
  (asg (gnm 3) (bin oadd (cst (.int 90)) (call m_law_pick (argC (var 0) (argC (cst (.int 40)) argN)))))) skip)
  (seq (asg (gnm 4) (lstE (argC (bin oadd (bin oadd (bin oadd (cst (.str "machine ")) (un bstr (var 1))) (cst (.str " "))) (un bstr (var 3))) argN)))
  (seq (for_ (irng1 (var 3)) (gnm 6) (seq (asg (gnm 7) (lstE argN))
  (seq (for_ (irng1 (bin oshl (cst (.int 1)) (var 1))) (gnm 8) (app 7 (bin oadd (bin oadd (un bstr (call m_law_pick (argC (var 0) (argC (var 3) argN)))) (cst (.str " "))) (un bstr (call m_law_pick (argC (var 0) (argC (cst (.int 2)) argN)))))))
  (app 4 (mtx ojoin (cst (.str " ")) (var 7))))))
  (ret (var 4)))))))))
def m_law_lines : List D → Res D := fn 1 9 b__law_lines
def b__law_number : SM :=
  (seq (ite (orT (tst (bin oeq (var 0) (cst (.str "")))) (orT (tst (bin ogt (un blen (var 0)) (cst (.int 6)))) (andT (tst (bin ogt (un blen (var 0)) (cst (.int 1)))) (tst (bin oeq (bin oidx (var 0) (cst (.int 0))) (cst (.str "0"))))))) (ret (cst .non)) skip)
  (seq (for_ (istr (var 0)) (gnm 1) (ite (tst (bin onotinS (var 1) (cst (.str "0123456789")))) (ret (cst .non)) skip))
  (ret (un bintx (var 0)))))
def m_law_number : List D → Res D := fn 1 2 b__law_number
def b__law_numbers : SM :=
  (seq (asg (gnm 1) (lcE (iseq (var 0)) [2] (gnm 2) yes (call m_law_number (argC (var 2) argN))))
  (seq (ite (tst (bin oin (cst .non) (var 1))) (ret (cst .non)) skip)
  (ret (var 1))))
def m_law_numbers : List D → Res D := fn 1 3 b__law_numbers
def b__law_deed : SM :=
  (seq (asg (gnm 2) (mtx osplit (var 0) (cst (.str " "))))
  (seq (asg (gnm 3) (call m_law_numbers (argC (slc (var 2) (some (cst (.int 1))) none) argN)))
  (seq (ite (tst (un oisN (var 3))) (ret (cst .non)) skip)
  (seq (asg (gnm 4) (var 3))
  (seq (asg (gnm 5) (cst (.int 2)))
  (seq (ite (tst (bin oin (bin oidx (var 2) (cst (.int 0))) (tupE (argC (cst (.str "zero")) (argC (cst (.str "ones")) argN))))) (asg (gnm 5) (cst (.int 0))) (ite (tst (bin oin (bin oidx (var 2) (cst (.int 0))) (tupE (argC (cst (.str "not")) (argC (cst (.str "shift")) (argC (cst (.str "minus")) argN)))))) (asg (gnm 5) (cst (.int 1))) (ite (tst (bin oeq (bin oidx (var 2) (cst (.int 0))) (cst (.str "count")))) (seq (ite (orT (tst (bin olt (un blen (var 3)) (cst (.int 3)))) (orT (tst (bin ogt (un blen (var 3)) (cst (.int 6)))) (orT (tst (bin onotin (bin oidx (var 3) (cst (.int 0))) (tupE (argC (cst (.int 2)) (argC (cst (.int 3)) (argC (cst (.int 5)) argN)))))) (tst (bin oge (bin oidx (var 3) (cst (.int 1))) (bin oidx (var 3) (cst (.int 0)))))))) (ret (cst .non)) skip)
  (seq (asg (gnm 4) (slc (var 3) (some (cst (.int 2))) none))
  (asg (gnm 5) (un blen (var 4))))) (ite (tst (bin onotin (bin oidx (var 2) (cst (.int 0))) (tupE (argC (cst (.str "and")) (argC (cst (.str "or")) (argC (cst (.str "xor")) (argC (cst (.str "add")) (argC (cst (.str "sub")) argN)))))))) (ret (cst .non)) skip))))
  (seq (ite (tst (bin Py.one (un blen (var 4)) (var 5))) (ret (cst .non)) skip)
  (seq (for_ (iseq (var 4)) (gnm 6) (ite (tst (bin oge (var 6) (var 1))) (ret (cst .non)) skip))
  (seq (ite (tst (bin oeq (bin oidx (var 2) (cst (.int 0))) (cst (.str "count")))) (ret (tupE (argC (bin oidx (var 2) (cst (.int 0))) (argC (bin oidx (var 3) (cst (.int 0))) (argC (bin oidx (var 3) (cst (.int 1))) (argC (un btuple (var 4)) argN)))))) skip)
  (ret (bin oadd (tupE (argC (bin oidx (var 2) (cst (.int 0))) argN)) (un btuple (var 4)))))))))))))
def m_law_deed : List D → Res D := fn 2 7 b__law_deed
def b__law_head : SM :=
  (seq (asg (gnm 2) (mtx osplit (var 0) (cst (.str " "))))
  (seq (asg (gnm 3) (call m_law_numbers (argC (slc (var 2) (some (cst (.int 1))) none) argN)))
  (seq (ite (orT (tst (bin Py.one (bin oidx (var 2) (cst (.int 0))) (var 1))) (orT (tst (un oisN (var 3))) (tst (bin Py.one (un blen (var 3)) (bin oadd (cst (.int 2)) (un bint (bin oeq (var 1) (cst (.str "row"))))))))) (ret (cst .non)) skip)
  (seq (ite (notT (tst (Py.chain ole ole (cst (.int 1)) (bin oidx (var 3) (cst (.int 0))) (cst (.int 3))))) (ret (cst .non)) skip)
  (seq (ite (orT (andT (tst (bin oeq (var 1) (cst (.str "row")))) (tst (bin oge (bin oidx (var 3) (cst (.int 2))) (bin oadd (bin oidx (var 3) (cst (.int 0))) (bin oidx (var 3) (cst (.int 1))))))) (andT (tst (bin oeq (var 1) (cst (.str "machine")))) (tst (bin oeq (bin oidx (var 3) (cst (.int 1))) (cst (.int 0)))))) (ret (cst .non)) skip)
  (ret (var 3)))))))
def m_law_head : List D → Res D := fn 2 4 b__law_head
def b__law_state : SM :=
  (seq (asg (gnm 3) (call m_law_numbers (argC (mtx osplit (var 0) (cst (.str " "))) argN)))
  (seq (ite (orT (tst (un oisN (var 3))) (tst (bin Py.one (un blen (var 3)) (bin oshl (cst (.int 2)) (var 1))))) (ret (cst .non)) skip)
  (seq (asg (gnm 4) (un (oev2 0) (var 3)))
  (seq (asg (gnm 5) (un (oev2 1) (var 3)))
  (seq (ite (orT (tst (bin oge (un bmaxT (var 4)) (var 2))) (tst (bin ogt (un bmaxT (var 5)) (cst (.int 1))))) (ret (cst .non)) skip)
  (ret (tupE (argC (un btuple (var 4)) (argC (un btuple (var 5)) argN)))))))))
def m_law_state : List D → Res D := fn 3 6 b__law_state
def b__law_read : SM :=
  (seq (asg (gnm 2) (mtx osplit (var 0) (cst (.str "\n"))))
  (seq (asg (gnm 3) (call m_law_head (argC (bin oidx (var 2) (cst (.int 0))) (argC (var 1) argN))))
  (seq (ite (tst (un oisN (var 3))) (ret (tupE (argC (cst (.str "wrong")) (argC (cst (.int 0)) (argC (cst .non) argN))))) skip)
  (seq (asg (gnm 4) (bin oadd (un blen (bin oidx (var 2) (cst (.int 0)))) (cst (.int 1))))
  (seq (asg (gnm 5) (lstE argN))
  (seq (for_ (irng2 (cst (.int 1)) (un blen (var 2))) (gnm 6) (seq (ite (tst (bin ogt (var 6) (bin oidx (var 3) (cst (.int 1))))) (ret (tupE (argC (cst (.str "wrong")) (argC (var 4) (argC (cst .non) argN))))) skip)
  (seq (ite (tst (bin oeq (var 1) (cst (.str "row")))) (asg (gnm 7) (call m_law_deed (argC (bin oidx (var 2) (var 6)) (argC (bin osub (bin oadd (bin oidx (var 3) (cst (.int 0))) (var 6)) (cst (.int 1))) argN)))) (asg (gnm 7) (call m_law_state (argC (bin oidx (var 2) (var 6)) (argC (bin oidx (var 3) (cst (.int 0))) (argC (bin oidx (var 3) (cst (.int 1))) argN))))))
  (seq (ite (tst (un oisN (var 7))) (ret (tupE (argC (cst (.str "wrong")) (argC (var 4) (argC (cst .non) argN))))) skip)
  (seq (app 5 (var 7))
  (asg (gnm 4) (bin oadd (bin oadd (var 4) (un blen (bin oidx (var 2) (var 6)))) (cst (.int 1)))))))))
  (seq (ite (tst (bin olt (un blen (var 5)) (bin oidx (var 3) (cst (.int 1))))) (ret (tupE (argC (cst (.str "wrong")) (argC (un blen (var 0)) (argC (cst .non) argN))))) skip)
  (ret (tupE (argC (cst (.str "right")) (argC (var 3) (argC (var 5) argN))))))))))))
def m_law_read : List D → Res D := fn 2 8 b__law_read
def b_is_integer : SM :=
  (ret (andE (un (oisi CS [.int]) (var 0)) (un onb (un (oisi CS [.bl]) (var 0)))))
def m_is_integer : List D → Res D := fn 1 1 b_is_integer
def b_is_inputs : SM :=
  (ret (andE (call m_is_integer (argC (var 0) argN)) (Py.chain ole ole (cst (.int 1)) (var 0) (cst (.int 3)))))
def m_is_inputs : List D → Res D := fn 1 1 b_is_inputs
def b_as_tuple : SM :=
  (seq (ite (tst (un (oisi CS [.lst, .tup]) (var 0))) (ret (un btuple (var 0))) skip)
  (ret (cst .non)))
def m_as_tuple : List D → Res D := fn 1 1 b_as_tuple
def b_is_below : SM :=
  (ret (andE (call m_is_integer (argC (var 0) argN)) (Py.chain ole olt (cst (.int 0)) (var 0) (var 1))))
def m_is_below : List D → Res D := fn 2 2 b_is_below
def b_is_line : SM :=
  (seq (ite (orT (notT (tst (un (oisi CS [.tup]) (var 0)))) (tst (bin Py.one (un blen (var 0)) (var 1)))) (ret (cst (.bl false))) skip)
  (ret (un ball (lcE (iseq (var 0)) [3] (gnm 3) yes (call m_is_below (argC (var 3) (argC (var 2) argN)))))))
def m_is_line : List D → Res D := fn 3 4 b_is_line
def b_right_nexts : SM :=
  (seq (asg (gnm 2) (call m_as_tuple (argC (var 0) argN)))
  (seq (ite (notT (tst (var 2))) (rais "InvalidMachine" ["part", "place"] (argC (cst (.str "nexts")) (argC (cst (.int 0)) argN))) skip)
  (seq (for_ (ienum (var 2)) (gtup [(gnm 3), (gnm 4)]) (ite (notT (tst (call m_is_line (argC (var 4) (argC (var 1) (argC (un blen (var 2)) argN)))))) (rais "InvalidMachine" ["part", "place"] (argC (cst (.str "nexts")) (argC (var 3) argN))) skip))
  (ret (var 2)))))
def m_right_nexts : List D → Res D := fn 2 5 b_right_nexts
def b_right_outs : SM :=
  (seq (asg (gnm 3) (call m_as_tuple (argC (var 0) argN)))
  (seq (ite (tst (un oisN (var 3))) (rais "InvalidMachine" ["part", "place"] (argC (cst (.str "outs")) (argC (cst (.int 0)) argN))) skip)
  (seq (asg (gnm 4) (bin bmin2 (un blen (var 3)) (var 2)))
  (seq (for_ (irng1 (var 4)) (gnm 5) (ite (notT (tst (call m_is_line (argC (bin oidx (var 3) (var 5)) (argC (var 1) (argC (cst (.int 2)) argN)))))) (rais "InvalidMachine" ["part", "place"] (argC (cst (.str "outs")) (argC (var 5) argN))) skip))
  (seq (ite (tst (bin Py.one (un blen (var 3)) (var 2))) (rais "InvalidMachine" ["part", "place"] (argC (cst (.str "outs")) (argC (var 4) argN))) skip)
  (ret (var 3)))))))
def m_right_outs : List D → Res D := fn 3 6 b_right_outs
def b_Machine_init : SM :=
  (seq (ite (notT (tst (call m_is_inputs (argC (var 1) argN)))) (rais "InvalidMachine" ["part", "place"] (argC (cst (.str "inputs")) (argC (cst (.int 0)) argN))) skip)
  (seq (asg (gnm 4) (bin oshl (cst (.int 1)) (var 1)))
  (seq (setF 0 ["Machine"] "inputs" (var 1))
  (seq (setF 0 ["Machine"] "nexts" (call m_right_nexts (argC (var 2) (argC (var 4) argN))))
  (setF 0 ["Machine"] "outs" (call m_right_outs (argC (var 3) (argC (var 4) (argC (un blen (un (oattr ["Machine"] "nexts") (var 0))) argN)))))))))
def m_Machine : List D → Res D := made 4 5 "Machine" b_Machine_init
def b_plain_number : SM :=
  (seq (ite (orT (notT (tst (Py.chain ole ole (cst (.int 1)) (un blen (var 0)) (var 1)))) (andT (tst (bin oeq (bin oidx (var 0) (cst (.int 0))) (cst (.str "0")))) (tst (bin Py.one (var 0) (cst (.str "0")))))) (ret (cst .non)) skip)
  (seq (ite (notT (tst (un ball (lcE (istr (var 0)) [2] (gnm 2) yes (bin oinS (var 2) (cst (.str "0123456789"))))))) (ret (cst .non)) skip)
  (ret (un bintx (var 0)))))
def m_plain_number : List D → Res D := fn 2 3 b_plain_number
def b_line_numbers : SM :=
  (seq (asg (gnm 1) (lcE (iseq (var 0)) [2] (gnm 2) yes (call m_plain_number (argC (var 2) (argC (cst (.int 6)) argN)))))
  (ret (ifE (tst (bin oin (cst .non) (var 1))) (cst .non) (var 1))))
def m_line_numbers : List D → Res D := fn 1 3 b_line_numbers
def b_head_numbers : SM :=
  (seq (asg (gnm 3) (mtx osplit (var 0) (cst (.str " "))))
  (seq (ite (orT (tst (bin Py.one (bin oidx (var 3) (cst (.int 0))) (var 1))) (tst (bin Py.one (un blen (var 3)) (bin oadd (var 2) (cst (.int 1)))))) (ret (cst .non)) skip)
  (seq (asg (gnm 4) (call m_line_numbers (argC (slc (var 3) (some (cst (.int 1))) none) argN)))
  (seq (ite (orT (tst (un oisN (var 4))) (notT (tst (call m_is_inputs (argC (bin oidx (var 4) (cst (.int 0))) argN))))) (ret (cst .non)) skip)
  (ret (var 4))))))
def m_head_numbers : List D → Res D := fn 3 5 b_head_numbers
def b_state_parts : SM :=
  (seq (asg (gnm 3) (call m_line_numbers (argC (mtx osplit (var 0) (cst (.str " "))) argN)))
  (seq (ite (orT (tst (un oisN (var 3))) (tst (bin Py.one (un blen (var 3)) (bin oshl (cst (.int 2)) (var 1))))) (ret (cst .non)) skip)
  (seq (asg (gnm 4) (un btuple (un (oev2 0) (var 3))))
  (seq (asg (gnm 5) (un btuple (un (oev2 1) (var 3))))
  (seq (ite (orT (tst (bin oge (un bmaxT (var 4)) (var 2))) (tst (bin ogt (un bmaxT (var 5)) (cst (.int 1))))) (ret (cst .non)) skip)
  (ret (tupE (argC (var 4) (argC (var 5) argN)))))))))
def m_state_parts : List D → Res D := fn 3 6 b_state_parts
def b_read_machine : SM :=
  (seq (asg (gnm 1) (mtx osplit (var 0) (cst (.str "\n"))))
  (seq (asg (gnm 2) (call m_head_numbers (argC (bin oidx (var 1) (cst (.int 0))) (argC (cst (.str "machine")) (argC (cst (.int 2)) argN)))))
  (seq (ite (orT (tst (un oisN (var 2))) (tst (bin oeq (bin oidx (var 2) (cst (.int 1))) (cst (.int 0))))) (rais "InvalidText" ["text", "at"] (argC (var 0) (argC (cst (.int 0)) argN))) skip)
  (seq (asg (gnm 3) (lstE argN))
  (seq (asg (gnm 4) (lstE argN))
  (seq (asg (gnm 5) (bin oadd (un blen (bin oidx (var 1) (cst (.int 0)))) (cst (.int 1))))
  (seq (for_ (ienum (slc (var 1) (some (cst (.int 1))) none)) (gtup [(gnm 6), (gnm 7)]) (seq (asg (gnm 8) (call m_state_parts (argC (var 7) (argC (bin oidx (var 2) (cst (.int 0))) (argC (bin oidx (var 2) (cst (.int 1))) argN)))))
  (seq (ite (orT (tst (bin oge (var 6) (bin oidx (var 2) (cst (.int 1))))) (tst (un oisN (var 8)))) (rais "InvalidText" ["text", "at"] (argC (var 0) (argC (var 5) argN))) skip)
  (seq (app 3 (bin oidx (var 8) (cst (.int 0))))
  (seq (app 4 (bin oidx (var 8) (cst (.int 1))))
  (aug 5 oiadd (bin oadd (un blen (var 7)) (cst (.int 1)))))))))
  (seq (ite (tst (bin olt (un blen (var 3)) (bin oidx (var 2) (cst (.int 1))))) (rais "InvalidText" ["text", "at"] (argC (var 0) (argC (un blen (var 0)) argN))) skip)
  (ret (call m_Machine (argC (bin oidx (var 2) (cst (.int 0))) (argC (var 3) (argC (var 4) argN)))))))))))))
def m_read_machine : List D → Res D := fn 1 9 b_read_machine
def b_are_values : SM :=
  (ret (un ball (lcE (iseq (var 0)) [2] (gnm 2) yes (call m_is_below (argC (var 2) (argC (var 1) argN))))))
def m_are_values : List D → Res D := fn 2 3 b_are_values
def b_is_count_deed : SM :=
  (seq (ite (tst (bin Py.one (un blen (var 0)) (cst (.int 4)))) (ret (cst (.bl false))) skip)
  (seq (asg (gtup [(gnm 2), (gnm 3), (gnm 4)]) (slc (var 0) (some (cst (.int 1))) none))
  (seq (ite (orT (notT (tst (call m_is_integer (argC (var 2) argN)))) (orT (tst (bin onotin (var 2) (tupE (argC (cst (.int 2)) (argC (cst (.int 3)) (argC (cst (.int 5)) argN)))))) (notT (tst (call m_is_below (argC (var 3) (argC (var 2) argN))))))) (ret (cst (.bl false))) skip)
  (ret (andE (un (oisi CS [.tup]) (var 4)) (andE (Py.chain ole ole (cst (.int 1)) (un blen (var 4)) (cst (.int 4))) (call m_are_values (argC (var 4) (argC (var 1) argN)))))))))
def m_is_count_deed : List D → Res D := fn 2 5 b_is_count_deed
def b_is_deed : SM :=
  (seq (ite (orT (notT (tst (un (oisi CS [.tup]) (var 0)))) (orT (notT (tst (var 0))) (notT (tst (un (oisi CS [.str]) (bin oidx (var 0) (cst (.int 0)))))))) (ret (cst (.bl false))) skip)
  (seq (ite (tst (bin oeq (bin oidx (var 0) (cst (.int 0))) (cst (.str "count")))) (ret (call m_is_count_deed (argC (var 0) (argC (var 1) argN)))) skip)
  (seq (ite (orT (tst (un (onothas tab_SIZES) (bin oidx (var 0) (cst (.int 0))))) (tst (bin Py.one (un blen (var 0)) (bin oadd (un (olook tab_SIZES) (bin oidx (var 0) (cst (.int 0)))) (cst (.int 1)))))) (ret (cst (.bl false))) skip)
  (ret (call m_are_values (argC (slc (var 0) (some (cst (.int 1))) none) (argC (var 1) argN)))))))
def m_is_deed : List D → Res D := fn 2 2 b_is_deed
def b_Row_init : SM :=
  (seq (ite (notT (tst (call m_is_inputs (argC (var 1) argN)))) (rais "InvalidRow" ["part", "place"] (argC (cst (.str "inputs")) (argC (cst (.int 0)) argN))) skip)
  (seq (asg (gnm 4) (call m_as_tuple (argC (var 2) argN)))
  (seq (ite (tst (un oisN (var 4))) (rais "InvalidRow" ["part", "place"] (argC (cst (.str "deeds")) (argC (cst (.int 0)) argN))) skip)
  (seq (for_ (ienum (var 4)) (gtup [(gnm 5), (gnm 6)]) (ite (notT (tst (call m_is_deed (argC (var 6) (argC (bin oadd (var 1) (var 5)) argN))))) (rais "InvalidRow" ["part", "place"] (argC (cst (.str "deeds")) (argC (var 5) argN))) skip))
  (seq (ite (notT (tst (call m_is_below (argC (var 3) (argC (bin oadd (var 1) (un blen (var 4))) argN))))) (rais "InvalidRow" ["part", "place"] (argC (cst (.str "out")) (argC (cst (.int 0)) argN))) skip)
  (seq (setF 0 ["Row"] "inputs" (var 1))
  (seq (setF 0 ["Row"] "deeds" (var 4))
  (setF 0 ["Row"] "out" (var 3)))))))))
def m_Row : List D → Res D := made 4 7 "Row" b_Row_init
def b_told_deed : SM :=
  (seq (asg (gnm 1) (lcE (iseq (slc (var 0) (some (cst (.int 1))) none)) [2] (gnm 2) yes (un bintx (var 2))))
  (seq (ite (tst (bin oeq (bin oidx (var 0) (cst (.int 0))) (cst (.str "count")))) (ret (tupE (argC (cst (.str "count")) (argC (bin oidx (var 1) (cst (.int 0))) (argC (bin oidx (var 1) (cst (.int 1))) (argC (un btuple (slc (var 1) (some (cst (.int 2))) none)) argN)))))) skip)
  (ret (tupE (argC (bin oidx (var 0) (cst (.int 0))) (argS (var 1) argN))))))
def m_told_deed : List D → Res D := fn 1 3 b_told_deed
def b_number_below : SM :=
  (seq (asg (gnm 2) (call m_plain_number (argC (var 0) (argC (cst (.int 6)) argN))))
  (ret (andE (un onotN (var 2)) (bin olt (var 2) (var 1)))))
def m_number_below : List D → Res D := fn 2 3 b_number_below
def b_wrong_count : SM :=
  (seq (for_ (irng2 (cst (.int 1)) (un blen (var 0))) (gnm 2) (seq (ite (andT (tst (bin oeq (var 2) (cst (.int 1)))) (tst (bin onotin (bin oidx (var 0) (var 2)) (tupE (argC (cst (.str "2")) (argC (cst (.str "3")) (argC (cst (.str "5")) argN))))))) (ret (var 2)) skip)
  (seq (ite (andT (tst (bin oeq (var 2) (cst (.int 2)))) (notT (tst (call m_number_below (argC (bin oidx (var 0) (var 2)) (argC (un bintx (bin oidx (var 0) (cst (.int 1)))) argN)))))) (ret (var 2)) skip)
  (ite (orT (tst (bin ogt (var 2) (cst (.int 6)))) (andT (tst (bin ogt (var 2) (cst (.int 2)))) (notT (tst (call m_number_below (argC (bin oidx (var 0) (var 2)) (argC (var 1) argN))))))) (ret (var 2)) skip))))
  (ret (ifE (tst (bin olt (un blen (var 0)) (cst (.int 4)))) (un blen (var 0)) (cst .non))))
def m_wrong_count : List D → Res D := fn 2 3 b_wrong_count
def b_wrong_word : SM :=
  (seq (ite (notT (tst (var 0))) (ret (cst (.int 0))) skip)
  (seq (ite (tst (bin oeq (bin oidx (var 0) (cst (.int 0))) (cst (.str "count")))) (ret (call m_wrong_count (argC (var 0) (argC (var 1) argN)))) skip)
  (seq (ite (tst (un (onothas tab_SIZES) (bin oidx (var 0) (cst (.int 0))))) (ret (cst (.int 0))) skip)
  (seq (asg (gnm 2) (un (olook tab_SIZES) (bin oidx (var 0) (cst (.int 0)))))
  (seq (for_ (irng2 (cst (.int 1)) (un blen (var 0))) (gnm 3) (ite (orT (tst (bin ogt (var 3) (var 2))) (notT (tst (call m_number_below (argC (bin oidx (var 0) (var 3)) (argC (var 1) argN)))))) (ret (var 3)) skip))
  (ret (ifE (tst (bin ole (un blen (var 0)) (var 2))) (un blen (var 0)) (cst .non))))))))
def m_wrong_word : List D → Res D := fn 2 4 b_wrong_word
def b_read_row : SM :=
  (seq (asg (gnm 1) (mtx osplit (var 0) (cst (.str "\n"))))
  (seq (asg (gnm 2) (call m_head_numbers (argC (bin oidx (var 1) (cst (.int 0))) (argC (cst (.str "row")) (argC (cst (.int 3)) argN)))))
  (seq (ite (orT (tst (un oisN (var 2))) (tst (bin oge (bin oidx (var 2) (cst (.int 2))) (bin oadd (bin oidx (var 2) (cst (.int 0))) (bin oidx (var 2) (cst (.int 1))))))) (rais "InvalidText" ["text", "at"] (argC (var 0) (argC (cst (.int 0)) argN))) skip)
  (seq (asg (gnm 3) (lstE argN))
  (seq (asg (gnm 4) (bin oadd (un blen (bin oidx (var 1) (cst (.int 0)))) (cst (.int 1))))
  (seq (for_ (ienum (slc (var 1) (some (cst (.int 1))) none)) (gtup [(gnm 5), (gnm 6)]) (seq (asg (gnm 7) (mtx osplit (var 6) (cst (.str " "))))
  (seq (ite (orT (tst (bin oge (var 5) (bin oidx (var 2) (cst (.int 1))))) (tst (un onotN (call m_wrong_word (argC (var 7) (argC (bin oadd (bin oidx (var 2) (cst (.int 0))) (var 5)) argN)))))) (rais "InvalidText" ["text", "at"] (argC (var 0) (argC (var 4) argN))) skip)
  (seq (app 3 (call m_told_deed (argC (var 7) argN)))
  (aug 4 oiadd (bin oadd (un blen (var 6)) (cst (.int 1))))))))
  (seq (ite (tst (bin olt (un blen (var 3)) (bin oidx (var 2) (cst (.int 1))))) (rais "InvalidText" ["text", "at"] (argC (var 0) (argC (un blen (var 0)) argN))) skip)
  (ret (call m_Row (argC (bin oidx (var 2) (cst (.int 0))) (argC (var 3) (argC (bin oidx (var 2) (cst (.int 2))) argN))))))))))))
def m_read_row : List D → Res D := fn 1 8 b_read_row
def b__law_refused : SM :=
  (seq (tryX "InvalidText" ES 3 (ite (tst (bin oeq (var 0) (cst (.str "row")))) (Py.drop (call m_read_row (argC (var 1) argN))) (Py.drop (call m_read_machine (argC (var 1) argN)))) fun c_e fs_e => (seq (ite (orT (notT (tst (xis ES EALL c_e ["CarryError"]))) (orT (notT (tst (un (oisi CS [.str]) (xfld ES EFL c_e "text" fs_e)))) (tst (bin Py.one (xfld ES EFL c_e "text" fs_e) (var 1))))) (ret (cst (.bl false))) skip)
  (ret (andE (un (oisi CS [.int]) (xfld ES EFL c_e "at" fs_e)) (andE (un onb (un (oisi CS [.bl]) (xfld ES EFL c_e "at" fs_e))) (bin oeq (xfld ES EFL c_e "at" fs_e) (var 2)))))))
  (ret (cst (.bl false))))
def m_law_refused : List D → Res D := fn 3 4 b__law_refused
def m_law_same : Nat → List D → Res D
  | 0 => fn 2 3 dead
  | k + 1 => fn 2 3 ((seq (ite (tst (un (oisi CS [.tup]) (var 1))) (seq (ite (orT (notT (tst (un (oisi CS [.tup]) (var 0)))) (tst (bin Py.one (un blen (var 0)) (un blen (var 1))))) (ret (cst (.bl false))) skip)
  (seq (for_ (irng1 (un blen (var 1))) (gnm 2) (ite (notT (tst (call (m_law_same k) (argC (bin oidx (var 0) (var 2)) (argC (bin oidx (var 1) (var 2)) argN))))) (ret (cst (.bl false))) skip))
  (ret (cst (.bl true))))) skip)
  (seq (ite (tst (un (oisi CS [.str]) (var 1))) (ret (andE (un (oisi CS [.str]) (var 0)) (bin oeq (var 0) (var 1)))) skip)
  (ret (andE (un (oisi CS [.int]) (var 0)) (andE (un onb (un (oisi CS [.bl]) (var 0))) (bin oeq (var 0) (var 1))))))))
def b__law_told : SM :=
  (seq (asg (gnm 2) (call m_law_read (argC (var 1) (argC (var 0) argN))))
  (seq (ite (tst (bin oeq (bin oidx (var 2) (cst (.int 0))) (cst (.str "wrong")))) (ret (call m_law_refused (argC (var 0) (argC (var 1) (argC (bin oidx (var 2) (cst (.int 1))) argN))))) skip)
  (seq (ite (tst (bin oeq (var 0) (cst (.str "row")))) (seq (asg (gnm 3) (call m_read_row (argC (var 1) argN)))
  (seq (ite (orT (notT (tst (un (oisi CS [(.cls "Row")]) (var 3)))) (orT (notT (tst (call (m_law_same 12) (argC (un (oattr ["Row", "Machine"] "inputs") (var 3)) (argC (bin oidx (bin oidx (var 2) (cst (.int 1))) (cst (.int 0))) argN))))) (notT (tst (call (m_law_same 12) (argC (un (oattr ["Row"] "out") (var 3)) (argC (bin oidx (bin oidx (var 2) (cst (.int 1))) (cst (.int 2))) argN))))))) (ret (cst (.bl false))) skip)
  (ret (call (m_law_same 12) (argC (un (oattr ["Row"] "deeds") (var 3)) (argC (un btuple (bin oidx (var 2) (cst (.int 2)))) argN)))))) skip)
  (seq (asg (gnm 4) (call m_read_machine (argC (var 1) argN)))
  (seq (ite (orT (notT (tst (un (oisi CS [(.cls "Machine")]) (var 4)))) (notT (tst (call (m_law_same 12) (argC (un (oattr ["Row", "Machine"] "inputs") (var 4)) (argC (bin oidx (bin oidx (var 2) (cst (.int 1))) (cst (.int 0))) argN)))))) (ret (cst (.bl false))) skip)
  (seq (ite (notT (tst (call (m_law_same 12) (argC (un (oattr ["Machine"] "nexts") (var 4)) (argC (un btuple (lcE (iseq (bin oidx (var 2) (cst (.int 2)))) [5] (gnm 5) yes (bin oidx (var 5) (cst (.int 0))))) argN))))) (ret (cst (.bl false))) skip)
  (ret (call (m_law_same 12) (argC (un (oattr ["Machine"] "outs") (var 4)) (argC (un btuple (lcE (iseq (bin oidx (var 2) (cst (.int 2)))) [5] (gnm 5) yes (bin oidx (var 5) (cst (.int 1))))) argN))))))))))
def m_law_told : List D → Res D := fn 2 6 b__law_told
def b__law_ask : SM :=
  (seq (for_ (irng1 (cst (.int 3))) (gnm 1) (seq (asg (gnm 2) (mtx ojoin (cst (.str "\n")) (call m_law_lines (argC (var 0) argN))))
  (seq (for_ (irng1 (bin oidx (tupE (argC (cst (.int 0)) (argC (cst (.int 1)) (argC (cst (.int 1)) (argC (cst (.int 1)) (argC (cst (.int 2)) (argC (cst (.int 3)) argN))))))) (call m_law_pick (argC (var 0) (argC (cst (.int 6)) argN))))) (gnm 3) (asg (gnm 2) (call m_law_changed (argC (var 0) (argC (var 2) argN)))))
  (for_ (iseq (tupE (argC (cst (.str "row")) (argC (cst (.str "machine")) (argC (cst (.str "row")) (argC (cst (.str "machine")) argN)))))) (gnm 4) (ite (notT (tst (call m_law_told (argC (var 4) (argC (var 2) argN))))) (ret (cst (.bl false))) skip)))))
  (ret (cst (.bl true))))
def m_law_ask : List D → Res D := fn 1 5 b__law_ask
def b_law : SM :=
  (seq (asg (gnm 1) (mkp (lstE (argC (lcE (iseq (slc (var 0) none (some (cst (.int 63))))) [2] (gnm 2) yes (un bint (var 2))) (argC (cst (.int 0)) (argC (cst (.int 0)) (argC (cst (.int 1)) argN)))))))
  (thru (ret (call m_law_ask (argC (var 1) argN)))))
def m_law : List D → Res D := fn 1 3 b_law
end Py
namespace Py
open PySem PySem.Spec PyProof.Rows L2
abbrev ow__law_pick : Ow := ⟨fun i => i == 0, none⟩
abbrev ow__law_word : Ow := owS []
abbrev ow__law_line : Ow := owS []
abbrev ow__law_changed : Ow := owS []
abbrev ow__law_deed_line : Ow := owS []
abbrev ow__law_lines : Ow := owS []
abbrev ow__law_number : Ow := owS []
abbrev ow__law_numbers : Ow := owS []
abbrev ow__law_deed : Ow := owS []
abbrev ow__law_head : Ow := owS []
abbrev ow__law_state : Ow := owS []
abbrev ow__law_read : Ow := owS []
abbrev ow_is_integer : Ow := owS []
abbrev ow_is_inputs : Ow := owS []
abbrev ow_as_tuple : Ow := owS []
abbrev ow_is_below : Ow := owS []
abbrev ow_is_line : Ow := owS []
abbrev ow_right_nexts : Ow := owS []
abbrev ow_right_outs : Ow := owS []
abbrev ow_Machine_init : Ow := ⟨fun i => i == 0, none⟩
abbrev ow_plain_number : Ow := owS []
abbrev ow_line_numbers : Ow := owS []
abbrev ow_head_numbers : Ow := owS []
abbrev ow_state_parts : Ow := owS []
abbrev ow_read_machine : Ow := owS []
abbrev ow_are_values : Ow := owS []
abbrev ow_is_count_deed : Ow := owS []
abbrev ow_is_deed : Ow := owS []
abbrev ow_Row_init : Ow := ⟨fun i => i == 0, none⟩
abbrev ow_told_deed : Ow := owS []
abbrev ow_number_below : Ow := owS []
abbrev ow_wrong_count : Ow := owS []
abbrev ow_wrong_word : Ow := owS []
abbrev ow_read_row : Ow := owS []
abbrev ow__law_refused : Ow := owS []
abbrev ow__law_same : Ow := owS []
abbrev ow__law_told : Ow := owS []
abbrev ow__law_ask : Ow := owS []
abbrev ow_law : Ow := owS []
abbrev Fs (P : Program) (w : World) (K : Frag) (mg : Str → Option Value) : Prop := FactsY fa fns xfs tbs mss FILE P w K mg
section
variable {P : Program} {w : World} {K : Frag} {mg : Str → Option Value} {base : Heap}
theorem S_InvalidText_init : NdefX.NScope N_InvalidText_init ["self", "text", "at"] ["__class__"] sc_InvalidText_init := NdefX.nscope_by (by decide +kernel)
theorem er_InvalidText (Y : Fs P w K mg) : ErrOk P w K mg base 1 "InvalidText" ["text", "at"] :=
  err_ok (k := 0) (self := "self") (N := N_InvalidText_init) (ps := ["self", "text", "at"]) (Y.err 0 11 (d := d_InvalidText_init) (c := "InvalidText") (fs := ["text", "at"])) (Y.glo 11) (Y.free 58) Y.ps rfl S_InvalidText_init rfl rfl rfl rfl (fun _ _ _ _ _ _ _ us hl => match us, hl with | [_, _, _], _ => rfl)
    (fun _ _ _ _ _ _ _ _ => (pss_cons (ps_ost (pv 0) (pv 1)) (pss_one (ps_ost (pv 0) (pv 2)))))
    (fun a ws H1 Dn σ h0 h1 hl hn q => fld_two (Y.err 0 11 (d := d_InvalidText_init) (c := "InvalidText") (fs := ["text", "at"])).T ((Y.err 0 11 (d := d_InvalidText_init) (c := "InvalidText") (fs := ["text", "at"])).no _ (by simp)) ((Y.err 0 11 (d := d_InvalidText_init) (c := "InvalidText") (fs := ["text", "at"])).no _ (by simp)) h0 h1 hl hn q) (fun _ _ _ _ => rfl) (fun _ _ _ _ => rfl) (fun _ _ _ _ => rfl) (fun _ _ _ _ => rfl)
theorem S_InvalidMachine_init : NdefX.NScope N_InvalidMachine_init ["self", "part", "place"] ["__class__"] sc_InvalidMachine_init := NdefX.nscope_by (by decide +kernel)
theorem er_InvalidMachine (Y : Fs P w K mg) : ErrOk P w K mg base 1 "InvalidMachine" ["part", "place"] :=
  err_ok (k := 0) (self := "self") (N := N_InvalidMachine_init) (ps := ["self", "part", "place"]) (Y.err 1 12 (d := d_InvalidMachine_init) (c := "InvalidMachine") (fs := ["part", "place"])) (Y.glo 59) (Y.free 58) Y.ps rfl S_InvalidMachine_init rfl rfl rfl rfl (fun _ _ _ _ _ _ _ us hl => match us, hl with | [_, _, _], _ => rfl)
    (fun _ _ _ _ _ _ _ _ => (pss_cons (ps_ost (pv 0) (pv 1)) (pss_one (ps_ost (pv 0) (pv 2)))))
    (fun a ws H1 Dn σ h0 h1 hl hn q => fld_two (Y.err 1 12 (d := d_InvalidMachine_init) (c := "InvalidMachine") (fs := ["part", "place"])).T ((Y.err 1 12 (d := d_InvalidMachine_init) (c := "InvalidMachine") (fs := ["part", "place"])).no _ (by simp)) ((Y.err 1 12 (d := d_InvalidMachine_init) (c := "InvalidMachine") (fs := ["part", "place"])).no _ (by simp)) h0 h1 hl hn q) (fun _ _ _ _ => rfl) (fun _ _ _ _ => rfl) (fun _ _ _ _ => rfl) (fun _ _ _ _ => rfl)
theorem S_InvalidRow_init : NdefX.NScope N_InvalidRow_init ["self", "part", "place"] ["__class__"] sc_InvalidRow_init := NdefX.nscope_by (by decide +kernel)
theorem er_InvalidRow (Y : Fs P w K mg) : ErrOk P w K mg base 1 "InvalidRow" ["part", "place"] :=
  err_ok (k := 0) (self := "self") (N := N_InvalidRow_init) (ps := ["self", "part", "place"]) (Y.err 2 13 (d := d_InvalidRow_init) (c := "InvalidRow") (fs := ["part", "place"])) (Y.glo 60) (Y.free 58) Y.ps rfl S_InvalidRow_init rfl rfl rfl rfl (fun _ _ _ _ _ _ _ us hl => match us, hl with | [_, _, _], _ => rfl)
    (fun _ _ _ _ _ _ _ _ => (pss_cons (ps_ost (pv 0) (pv 1)) (pss_one (ps_ost (pv 0) (pv 2)))))
    (fun a ws H1 Dn σ h0 h1 hl hn q => fld_two (Y.err 2 13 (d := d_InvalidRow_init) (c := "InvalidRow") (fs := ["part", "place"])).T ((Y.err 2 13 (d := d_InvalidRow_init) (c := "InvalidRow") (fs := ["part", "place"])).no _ (by simp)) ((Y.err 2 13 (d := d_InvalidRow_init) (c := "InvalidRow") (fs := ["part", "place"])).no _ (by simp)) h0 h1 hl hn q) (fun _ _ _ _ => rfl) (fun _ _ _ _ => rfl) (fun _ _ _ _ => rfl) (fun _ _ _ _ => rfl)
theorem S__law_pick : FnScope N__law_pick ["pool", "many"] sc__law_pick := ⟨rfl, rfl, rfl, by decide +kernel, rfl, by decide +kernel, by decide +kernel⟩
theorem c_law_pick (Y : Fs P w K mg) : CallOk P w K mg base 1 "_law_pick" d__law_pick ["pool", "many"] 2 m_law_pick :=
  def_okP (d := d__law_pick) (N := N__law_pick) (ps := ["pool", "many"]) (kk := false) (m := b__law_pick) (k := 0) (oN := ow__law_pick) (oB := ow__law_pick) (Y.def_ 0) (Y.glo 19) S__law_pick rfl rfl draws_pick (fun _ _ _ _ _ _ us hl => match us, hl with | [_, _], _ => rfl) (fun cdv A outer s H E T => (ss_cons (s_if (t_cmp y_gt n_gt b_gt (w_of (x_idx T.ix (x_own (pv 0)) (w_of x_int))) (w_of x_int) rfl) (ss_cons (s_set (ps_set (i := 2) T.nd rfl (Or.inl rfl) (x_bin y_mod n_mod (w_of (x_t1 v_int n_int rfl (Y.free 0) hv_int (w_of (x_idx T.ix (x_own (pv 0)) (w_of x_int))))) (w_of (x_var (pv 1) rfl)))) rfl)
  (ss_cons (s_setL (i := 0) (ps_asg (x_bin y_fdiv n_fdiv (w_of (x_idx T.ix (x_own (pv 0)) (w_of x_int))) (w_of (x_var (pv 1) rfl))) (pg_sub (pv 0) x_int T.st)) rfl)
  (ss_one (s_retB (x_var (pv 2) rfl) rfl)))) ss_nil)
  (ss_cons (s_set (ps_set (i := 3) T.nd rfl (Or.inl rfl) x_int) rfl)
  (ss_cons (s_if (t_cmp y_lt n_lt b_lt (w_of (x_idx T.ix (x_own (pv 0)) (w_of x_int))) (w_of (x_b1 v_lenC n_lenC rfl (Y.free 2) hv_len (w_of (x_idx T.ix (x_own (pv 0)) (w_of x_int))))) rfl) (ss_cons (s_set (ps_set (i := 3) T.nd rfl (Or.inl rfl) (x_idxC T.ixC (w_of (x_idx T.ix (x_own (pv 0)) (w_of x_int))) (w_of (x_idx T.ix (x_own (pv 0)) (w_of x_int))))) rfl)
  (ss_one (s_setL (i := 0) (ps_asg (x_bin y_add n_add (w_of (x_idx T.ix (x_own (pv 0)) (w_of x_int))) (w_of x_int)) (pg_sub (pv 0) x_int T.st)) rfl))) ss_nil)
  (ss_cons (s_if (t_cmp y_gt n_gt b_gt (w_of (x_var (pv 3) rfl)) (w_of (x_bin y_add n_add (w_of (x_bin y_pow n_pow (w_of x_int) (w_of x_int))) (w_of x_int))) rfl) (ss_cons (s_set (ps_set (i := 3) T.nd rfl (Or.inl rfl) (x_bin y_sub n_sub (w_of (x_var (pv 3) rfl)) (w_of (x_bin y_pow n_pow (w_of x_int) (w_of x_int))))) rfl)
  (ss_cons (s_setL (i := 0) (ps_asg (x_bin y_fdiv n_fdiv (w_of (x_var (pv 3) rfl)) (w_of (x_var (pv 1) rfl))) (pg_sub (pv 0) x_int T.st)) rfl)
  (ss_one (s_retB (x_bin y_mod n_mod (w_of (x_t1 v_int n_int rfl (Y.free 0) hv_int (w_of (x_var (pv 3) rfl)))) (w_of (x_var (pv 1) rfl))) rfl)))) ss_nil)
  (ss_cons (s_setL (i := 0) (ps_asg (x_bin y_mod n_mod (w_of (x_t1 v_int n_int rfl (Y.free 0) hv_int (w_of (x_bin y_add n_add (w_of (x_bin y_add n_add (w_of (x_bin y_mul n_mul (w_of (x_idx T.ix (x_own (pv 0)) (w_of x_int))) (w_of x_int))) (w_of (x_bin y_mul n_mul (w_of (x_var (pv 3) rfl)) (w_of x_int))))) (w_of x_int))))) (w_of x_int)) (pg_sub (pv 0) x_int T.st)) rfl)
  (ss_one (s_retB (x_bin y_mod n_mod (w_of (x_bin y_fdiv n_fdiv (w_of (x_bin y_mod n_mod (w_of (x_t1 v_int n_int rfl (Y.free 0) hv_int (w_of (x_bin y_add n_add (w_of (x_bin y_mul n_mul (w_of (x_idx T.ix (x_own (pv 0)) (w_of x_int))) (w_of (x_idx T.ix (x_own (pv 0)) (w_of x_int))))) (w_of (x_bin y_mul n_mul (w_of (x_idx T.ix (x_own (pv 0)) (w_of x_int))) (w_of x_int))))))) (w_of x_int))) (w_of x_int))) (w_of (x_var (pv 1) rfl))) rfl))))))))
theorem S__law_word : FnScope N__law_word ["pool", "word"] sc__law_word := ⟨rfl, rfl, rfl, by decide +kernel, rfl, by decide +kernel, by decide +kernel⟩
theorem c_law_word (Y : Fs P w K mg) : CallOk P w K mg base 2 "_law_word" d__law_word ["pool", "word"] 2 m_law_word :=
  def_ok (d := d__law_word) (N := N__law_word) (ps := ["pool", "word"]) (p := 2) (m := b__law_word) (k := 1) (ow := ow__law_word) (Y.def_ 1) (Y.glo 20) S__law_word rfl rfl (by decide) (fun _ _ _ _ _ _ us hl => match us, hl with | [_, _], _ => rfl) (fun cdv A outer s H E T => (ss_cons (s_set (ps_set (i := 2) T.nd rfl (Or.inl rfl) (e_of (f_lst (xa_cons (x_str (s := "0")) (xa_cons (x_str (s := "1")) (xa_cons (x_str (s := "2")) (xa_cons (x_str (s := "3")) (xa_cons (x_str (s := "4")) (xa_cons (x_str (s := "5")) (xa_cons (x_str (s := "6")) (xa_cons (x_str (s := "00")) (xa_cons (x_str (s := "01")) (xa_cons (x_str (s := "1000000")) (xa_cons (x_str (s := "-1")) (xa_cons (x_str (s := "+1")) (xa_cons (x_str (s := "x")) (xa_cons (x_str (s := "")) (xa_cons (x_str (s := "zero")) (xa_cons (x_str (s := "ones")) (xa_cons (x_str (s := "not")) (xa_cons (x_str (s := "and")) xa_nil))))))))))))))))))))) rfl)
  (ss_cons (s_set (ps_set (i := 2) T.nd rfl (Or.inl rfl) (x_bin y_add n_add (w_of (x_var (pv 2) rfl)) (w_of (e_of (f_lst (xa_cons (x_str (s := "shift")) (xa_cons (x_str (s := "count")) (xa_cons (x_str (s := "add")) (xa_cons (x_str (s := "row")) (xa_cons (x_str (s := "machine")) (xa_cons (x_str (s := "Not")) (xa_cons (x_str (s := "1.0")) (xa_cons (x_str (s := "1_0")) (xa_cons (x_str (s := "7")) (xa_cons (x_str (s := "9")) (xa_cons (x_str (s := "400")) (xa_cons (x_str (s := "100")) (xa_cons (x_str (s := "123")) (xa_cons (x_str (s := "1__0")) xa_nil))))))))))))))))))) rfl)
  (ss_cons (s_set (ps_set (i := 2) T.nd rfl (Or.inl rfl) (x_bin y_add n_add (w_of (x_var (pv 2) rfl)) (w_of (e_of (f_lst (xa_cons (x_strI rfl rfl (Y.free 3) (w_of (x_own1 T (c_law_pick Y) (by decide) rfl (xa_cons (x_var (pv 0) rfl) (xa_cons x_int xa_nil))))) (xa_cons (x_strI rfl rfl (Y.free 3) (w_of (x_bin y_add n_add (w_of x_int) (w_of (x_own1 T (c_law_pick Y) (by decide) rfl (xa_cons (x_var (pv 0) rfl) (xa_cons x_int xa_nil))))))) (xa_cons (x_str (s := "0x1")) (xa_cons (x_str (s := "1e1")) (xa_cons (x_str (s := "--1")) (xa_cons (x_str (s := "0+1")) (xa_cons (x_str (s := "_1")) (xa_cons (x_str (s := "010")) xa_nil))))))))))))) rfl)
  (ss_cons (s_set (ps_set (i := 3) T.nd rfl (Or.inl rfl) (x_own1 T (c_law_pick Y) (by decide) rfl (xa_cons (x_var (pv 0) rfl) (xa_cons x_int xa_nil)))) rfl)
  (ss_cons (s_if (PW.pt (t_and (t_cmp T.eq n_eq b_eq (w_of (x_var (pv 3) rfl)) (w_of x_int) rfl) (t_and (t_cmp T.ne n_ne b_ne (w_of (x_var (pv 1) rfl)) (w_of (x_str (s := ""))) rfl) (t_and (t_cmp y_lt n_lt b_lt (w_of (x_b1 v_len n_len rfl (Y.free 2) hv_len (w_of (x_var (pv 1) rfl)))) (w_of x_int) rfl) (t_and1 (t_cmp T.eq n_eq b_eq (w_of (x_b1 v_len n_len rfl (Y.free 2) hv_len (w_of (e_of (f_lc (own := [("sign", 4)]) T (i_gr (i_str (x_var (pv 1) rfl))) (blkOk_by (N := N__law_word) (sc := sc__law_word) (own := [("sign", 4)]) (by decide +kernel)) (fun _ _ _ _ _ T1 => (g_nm (pg_name (i := 4) T1.nd rfl (Or.inl rfl)) rfl)) (fun _ _ _ _ _ T1 => (ts_one (t_cmp y_inS n_inS b_inS (w_of (x_var (pv 4) rfl)) (w_of (x_str (s := "0123456789"))) rfl))) (fun _ _ _ _ _ T1 => (x_var (pv 4) rfl)) (by decide)))))) (w_of (x_b1 v_len n_len rfl (Y.free 2) hv_len (w_of (x_var (pv 1) rfl)))) rfl)))))) (ss_one (s_ret (x_strI rfl rfl (Y.free 3) (w_of (x_bin y_add n_add (w_of (x_t1 v_intx n_intx rfl (Y.free 0) hv_int (w_of (x_var (pv 1) rfl)))) (w_of x_int)))))) ss_nil)
  (ss_cons (s_if (t_cmp T.eq n_eq b_eq (w_of (x_var (pv 3) rfl)) (w_of x_int) rfl) (ss_one (s_ret (x_bin y_add n_add (w_of (x_idx T.ix (w_of (x_tup (xa_cons (x_str (s := "0")) (xa_cons (x_str (s := "+")) (xa_cons (x_str (s := "0_")) (xa_cons (x_str (s := "-")) (xa_cons (x_str (s := "+")) xa_nil))))))) (w_of (x_own1 T (c_law_pick Y) (by decide) rfl (xa_cons (x_var (pv 0) rfl) (xa_cons x_int xa_nil)))))) (w_of (x_var (pv 1) rfl))))) ss_nil)
  (ss_one (s_ret (x_idx T.ix (w_of (x_var (pv 2) rfl)) (w_of (x_own1 T (c_law_pick Y) (by decide) rfl (xa_cons (x_var (pv 0) rfl) (xa_cons (x_b1 v_len n_len rfl (Y.free 2) hv_len (w_of (x_var (pv 2) rfl))) xa_nil))))))))))))))
theorem S__law_line : FnScope N__law_line ["pool", "line"] sc__law_line := ⟨rfl, rfl, rfl, by decide +kernel, rfl, by decide +kernel, by decide +kernel⟩
theorem c_law_line (Y : Fs P w K mg) : CallOk P w K mg base 3 "_law_line" d__law_line ["pool", "line"] 2 m_law_line :=
  def_ok (d := d__law_line) (N := N__law_line) (ps := ["pool", "line"]) (p := 2) (m := b__law_line) (k := 2) (ow := ow__law_line) (oN := owS []) (oB := owS []) (Y.def_ 2) (Y.glo 21) S__law_line rfl rfl (by decide) (fun _ _ _ _ _ _ us hl => match us, hl with | [_, _], _ => rfl) (fun cdv A outer s H E T => (c_cons (o1 := owS [2]) (c_own (ps_set (i := 2) T.nd rfl (Or.inl rfl) (f_split (w_of (x_var (pv 1) rfl)) (w_of (x_str (s := " "))))) rfl (owS_add (by decide)))
  (c_cons (o1 := owS [2]) (s_up (s_set (ps_set (i := 3) T.nd rfl (Or.inl rfl) (x_own1 T (c_law_pick Y) (by decide) rfl (xa_cons (x_var (pv 0) rfl) (xa_cons (x_b1 v_len n_len rfl (Y.free 2) hv_len (x_own (pv 2))) xa_nil)))) rfl) (owS_le (by decide)) (by decide))
  (c_cons (o1 := owS [2]) (s_up (s_set (ps_set (i := 4) T.nd rfl (Or.inl rfl) (x_own1 T (c_law_pick Y) (by decide) rfl (xa_cons (x_var (pv 0) rfl) (xa_cons x_int xa_nil)))) rfl) (owS_le (by decide)) (by decide))
  (c_cons (o1 := owS []) (c_if (t_cmp T.eq n_eq b_eq (w_of (x_var (pv 4) rfl)) (w_of x_int) rfl) (c_cut (o1 := owS []) (c_one (s_up (s_set (ps_set (i := 2) T.nd rfl (Or.inl rfl) (x_bin y_add n_add (w_of (x_slc (w_of (x_var (pv 2) rfl)) o_none (o_some (x_var (pv 3) rfl)))) (w_of (x_slc (w_of (x_var (pv 2) rfl)) (o_some (x_bin y_add n_add (w_of (x_var (pv 3) rfl)) (w_of x_int))) o_none)))) rfl) (owS_le (by decide)) (by decide))) (owS_le (by decide)) (by decide)) (c_one (c_if (t_cmp T.eq n_eq b_eq (w_of (x_var (pv 4) rfl)) (w_of x_int) rfl) (c_cut (o1 := owS []) (c_one (s_up (s_set (ps_set (i := 2) T.nd rfl (Or.inl rfl) (x_bin y_add n_add (w_of (x_bin y_add n_add (w_of (x_slc (w_of (x_var (pv 2) rfl)) o_none (o_some (x_var (pv 3) rfl)))) (w_of (e_of (f_lst (xa_cons (x_idx T.ix (w_of (x_var (pv 2) rfl)) (w_of (x_var (pv 3) rfl))) xa_nil)))))) (w_of (x_slc (w_of (x_var (pv 2) rfl)) (o_some (x_var (pv 3) rfl)) o_none)))) rfl) (owS_le (by decide)) (by decide))) (owS_le (by decide)) (by decide)) (c_one (c_end (o1 := owS [2]) (s_up (s_setL (i := 2) (ps_asg (x_own1 T (c_law_word Y) (by decide) rfl (xa_cons (x_var (pv 0) rfl) (xa_cons (x_idx T.ix (x_own (pv 2)) (w_of (x_var (pv 3) rfl))) xa_nil))) (pg_sub (pv 2) (x_var (pv 3) rfl) T.st)) rfl) (owS_le (by decide)) (by decide)) (owS_le (by decide)) (by decide))))))
  (c_one (s_up (s_ret (x_join (w_of (x_str (s := " "))) (w_of (x_var (pv 2) rfl)))) (owS_le (by decide)) (by decide))))))))
theorem S__law_changed : FnScope N__law_changed ["pool", "text"] sc__law_changed := ⟨rfl, rfl, rfl, by decide +kernel, rfl, by decide +kernel, by decide +kernel⟩
theorem c_law_changed (Y : Fs P w K mg) : CallOk P w K mg base 4 "_law_changed" d__law_changed ["pool", "text"] 2 m_law_changed :=
  def_ok (d := d__law_changed) (N := N__law_changed) (ps := ["pool", "text"]) (p := 2) (m := b__law_changed) (k := 3) (ow := ow__law_changed) (oN := owS []) (oB := owS []) (Y.def_ 3) (Y.glo 22) S__law_changed rfl rfl (by decide) (fun _ _ _ _ _ _ us hl => match us, hl with | [_, _], _ => rfl) (fun cdv A outer s H E T => (c_cons (o1 := owS []) (s_up (s_set (ps_set (i := 2) T.nd rfl (Or.inl rfl) (x_own1 T (c_law_pick Y) (by decide) rfl (xa_cons (x_var (pv 0) rfl) (xa_cons x_int xa_nil)))) rfl) (owS_le (by decide)) (by decide))
  (c_cons (o1 := owS []) (s_up (s_set (ps_set (i := 3) T.nd rfl (Or.inl rfl) (x_own1 T (c_law_pick Y) (by decide) rfl (xa_cons (x_var (pv 0) rfl) (xa_cons (x_bin y_add n_add (w_of (x_b1 v_len n_len rfl (Y.free 2) hv_len (w_of (x_var (pv 1) rfl)))) (w_of x_int)) xa_nil)))) rfl) (owS_le (by decide)) (by decide))
  (c_cons (o1 := owS []) (c_if (t_cmp T.eq n_eq b_eq (w_of (x_var (pv 2) rfl)) (w_of x_int) rfl) (c_one (s_up (s_ret (x_bin y_add n_add (w_of (x_bin y_add n_add (w_of (x_slc (w_of (x_var (pv 1) rfl)) o_none (o_some (x_var (pv 3) rfl)))) (w_of (x_idx T.ix (w_of (x_tup (xa_cons (x_str (s := " ")) (xa_cons (x_str (s := "\n")) (xa_cons (x_str (s := "\t")) (xa_cons (x_str (s := ";")) (xa_cons (x_str (s := "0")) (xa_cons (x_str (s := "a")) xa_nil)))))))) (w_of (x_own1 T (c_law_pick Y) (by decide) rfl (xa_cons (x_var (pv 0) rfl) (xa_cons x_int xa_nil)))))))) (w_of (x_slc (w_of (x_var (pv 1) rfl)) (o_some (x_var (pv 3) rfl)) o_none)))) (owS_le (by decide)) (by decide))) (c_cut (o1 := owS []) c_nil (owS_le (by decide)) (by decide)))
  (c_cons (o1 := owS []) (c_if (t_cmp T.eq n_eq b_eq (w_of (x_var (pv 2) rfl)) (w_of x_int) rfl) (c_one (s_up (s_ret (x_bin y_add n_add (w_of (x_slc (w_of (x_var (pv 1) rfl)) o_none (o_some (x_var (pv 3) rfl)))) (w_of (x_slc (w_of (x_var (pv 1) rfl)) (o_some (x_bin y_add n_add (w_of (x_var (pv 3) rfl)) (w_of x_int))) o_none)))) (owS_le (by decide)) (by decide))) (c_cut (o1 := owS []) c_nil (owS_le (by decide)) (by decide)))
  (c_cons (o1 := owS []) (c_if (t_cmp T.eq n_eq b_eq (w_of (x_var (pv 2) rfl)) (w_of x_int) rfl) (c_one (s_up (s_ret (x_slc (w_of (x_var (pv 1) rfl)) o_none (o_some (x_var (pv 3) rfl)))) (owS_le (by decide)) (by decide))) (c_cut (o1 := owS []) c_nil (owS_le (by decide)) (by decide)))
  (c_cons (o1 := owS [4]) (c_own (ps_set (i := 4) T.nd rfl (Or.inl rfl) (f_split (w_of (x_var (pv 1) rfl)) (w_of (x_str (s := "\n"))))) rfl (owS_add (by decide)))
  (c_cons (o1 := owS [4]) (s_up (s_set (ps_set (i := 5) T.nd rfl (Or.inl rfl) (x_own1 T (c_law_pick Y) (by decide) rfl (xa_cons (x_var (pv 0) rfl) (xa_cons (x_b1 v_len n_len rfl (Y.free 2) hv_len (x_own (pv 4))) xa_nil)))) rfl) (owS_le (by decide)) (by decide))
  (c_cons (o1 := owS []) (c_if (t_cmp T.eq n_eq b_eq (w_of (x_var (pv 2) rfl)) (w_of x_int) rfl) (c_cons (o1 := owS [4]) (s_up (s_set (ps_set (i := 6) T.nd rfl (Or.inl rfl) (x_own1 T (c_law_pick Y) (by decide) rfl (xa_cons (x_var (pv 0) rfl) (xa_cons (x_b1 v_len n_len rfl (Y.free 2) hv_len (x_own (pv 4))) xa_nil)))) rfl) (owS_le (by decide)) (by decide))
  (c_cons (o1 := owS [4]) (s_up (s_set (ps_set (i := 7) T.nd rfl (Or.inl rfl) (x_idx T.ix (x_own (pv 4)) (w_of (x_var (pv 5) rfl)))) rfl) (owS_le (by decide)) (by decide))
  (c_cons (o1 := owS [4]) (s_up (s_setL (i := 4) (ps_asg (x_idx T.ix (x_own (pv 4)) (w_of (x_var (pv 6) rfl))) (pg_sub (pv 4) (x_var (pv 5) rfl) T.st)) rfl) (owS_le (by decide)) (by decide))
  (c_one (c_end (o1 := owS [4]) (s_up (s_setL (i := 4) (ps_asg (x_var (pv 7) rfl) (pg_sub (pv 4) (x_var (pv 6) rfl) T.st)) rfl) (owS_le (by decide)) (by decide)) (owS_le (by decide)) (by decide)))))) (c_one (c_if (t_cmp T.eq n_eq b_eq (w_of (x_var (pv 2) rfl)) (w_of x_int) rfl) (c_cut (o1 := owS []) (c_one (s_up (s_set (ps_set (i := 4) T.nd rfl (Or.inl rfl) (x_bin y_add n_add (w_of (x_slc (w_of (x_var (pv 4) rfl)) o_none (o_some (x_var (pv 5) rfl)))) (w_of (x_slc (w_of (x_var (pv 4) rfl)) (o_some (x_bin y_add n_add (w_of (x_var (pv 5) rfl)) (w_of x_int))) o_none)))) rfl) (owS_le (by decide)) (by decide))) (owS_le (by decide)) (by decide)) (c_one (c_if (t_cmp T.eq n_eq b_eq (w_of (x_var (pv 2) rfl)) (w_of x_int) rfl) (c_cut (o1 := owS []) (c_cons (o1 := owS []) (s_up (s_set (ps_set (i := 8) T.nd rfl (Or.inl rfl) (e_of (f_lst (xa_cons (x_idx T.ix (w_of (x_var (pv 4) rfl)) (w_of (x_var (pv 5) rfl))) (xa_cons (x_str (s := "")) (xa_cons (x_str (s := "zero")) (xa_cons (x_str (s := "not 0")) (xa_cons (x_str (s := "0 0 0 0")) (xa_cons (x_str (s := "row 1 0 0")) (xa_cons (x_str (s := " ")) xa_nil)))))))))) rfl) (owS_le (by decide)) (by decide))
  (c_one (s_up (s_set (ps_set (i := 4) T.nd rfl (Or.inl rfl) (x_bin y_add n_add (w_of (x_bin y_add n_add (w_of (x_slc (w_of (x_var (pv 4) rfl)) o_none (o_some (x_var (pv 5) rfl)))) (w_of (e_of (f_lst (xa_cons (x_idx T.ix (w_of (x_var (pv 8) rfl)) (w_of (x_own1 T (c_law_pick Y) (by decide) rfl (xa_cons (x_var (pv 0) rfl) (xa_cons x_int xa_nil))))) xa_nil)))))) (w_of (x_slc (w_of (x_var (pv 4) rfl)) (o_some (x_var (pv 5) rfl)) o_none)))) rfl) (owS_le (by decide)) (by decide)))) (owS_le (by decide)) (by decide)) (c_one (c_end (o1 := owS [4]) (s_up (s_setL (i := 4) (ps_asg (x_own1 T (c_law_line Y) (by decide) rfl (xa_cons (x_var (pv 0) rfl) (xa_cons (x_idx T.ix (x_own (pv 4)) (w_of (x_var (pv 5) rfl))) xa_nil))) (pg_sub (pv 4) (x_var (pv 5) rfl) T.st)) rfl) (owS_le (by decide)) (by decide)) (owS_le (by decide)) (by decide))))))))
  (c_one (s_up (s_ret (x_join (w_of (x_str (s := "\n"))) (w_of (x_var (pv 4) rfl)))) (owS_le (by decide)) (by decide))))))))))))
theorem S__law_deed_line : FnScope N__law_deed_line ["pool", "values"] sc__law_deed_line := ⟨rfl, rfl, rfl, by decide +kernel, rfl, by decide +kernel, by decide +kernel⟩
theorem c_law_deed_line (Y : Fs P w K mg) : CallOk P w K mg base 2 "_law_deed_line" d__law_deed_line ["pool", "values"] 2 m_law_deed_line :=
  def_ok (d := d__law_deed_line) (N := N__law_deed_line) (ps := ["pool", "values"]) (p := 2) (m := b__law_deed_line) (k := 1) (ow := ow__law_deed_line) (oN := owS []) (oB := owS []) (Y.def_ 4) (Y.glo 23) S__law_deed_line rfl rfl (by decide) (fun _ _ _ _ _ _ us hl => match us, hl with | [_, _], _ => rfl) (fun cdv A outer s H E T => (c_cons (o1 := owS []) (s_up (s_set (ps_set (i := 2) T.nd rfl (Or.inl rfl) (x_tup (xa_cons (x_str (s := "zero")) (xa_cons (x_str (s := "ones")) (xa_cons (x_str (s := "not")) (xa_cons (x_str (s := "and")) (xa_cons (x_str (s := "or")) (xa_cons (x_str (s := "xor")) (xa_cons (x_str (s := "shift")) (xa_cons (x_str (s := "minus")) (xa_cons (x_str (s := "add")) (xa_cons (x_str (s := "sub")) (xa_cons (x_str (s := "count")) xa_nil))))))))))))) rfl) (owS_le (by decide)) (by decide))
  (c_cons (o1 := owS []) (s_up (s_set (ps_set (i := 3) T.nd rfl (Or.inl rfl) (x_idx T.ix (w_of (x_var (pv 2) rfl)) (w_of (x_own1 T (c_law_pick Y) (by decide) rfl (xa_cons (x_var (pv 0) rfl) (xa_cons x_int xa_nil)))))) rfl) (owS_le (by decide)) (by decide))
  (c_cons (o1 := owS []) (c_if (t_cmp T.inn n_in b_in (w_of (x_var (pv 3) rfl)) (w_of (x_tup (xa_cons (x_str (s := "zero")) (xa_cons (x_str (s := "ones")) xa_nil)))) rfl) (c_one (s_up (s_ret (x_var (pv 3) rfl)) (owS_le (by decide)) (by decide))) (c_cut (o1 := owS []) c_nil (owS_le (by decide)) (by decide)))
  (c_cons (o1 := owS [4]) (c_own (ps_set (i := 4) T.nd rfl (Or.inl rfl) (f_lst (xa_cons (x_own1 T (c_law_pick Y) (by decide) rfl (xa_cons (x_var (pv 0) rfl) (xa_cons (x_var (pv 1) rfl) xa_nil))) xa_nil))) rfl (owS_add (by decide)))
  (c_cons (o1 := owS []) (c_if (t_cmp T.eq n_eq b_eq (w_of (x_var (pv 3) rfl)) (w_of (x_str (s := "count"))) rfl) (c_cut (o1 := owS []) (c_cons (o1 := owS []) (s_up (s_set (ps_set (i := 5) T.nd rfl (Or.inl rfl) (x_idx T.ix (w_of (x_tup (xa_cons x_int (xa_cons x_int (xa_cons x_int xa_nil))))) (w_of (x_own1 T (c_law_pick Y) (by decide) rfl (xa_cons (x_var (pv 0) rfl) (xa_cons x_int xa_nil)))))) rfl) (owS_le (by decide)) (by decide))
  (c_cons (o1 := owS [4]) (c_own (ps_set (i := 4) T.nd rfl (Or.inl rfl) (f_lst (xa_cons (x_var (pv 5) rfl) (xa_cons (x_own1 T (c_law_pick Y) (by decide) rfl (xa_cons (x_var (pv 0) rfl) (xa_cons (x_var (pv 5) rfl) xa_nil))) (xa_cons (x_idx T.ix (w_of (x_var (pv 4) rfl)) (w_of x_int)) xa_nil))))) rfl (owS_add (by decide)))
  (c_one (c_end (o1 := owS [4]) (s_up (s_for T.po T.calm (i_rng1 rfl (Y.free 1) (x_own1 T (c_law_pick Y) (by decide) rfl (xa_cons (x_var (pv 0) rfl) (xa_cons x_int xa_nil)))) (g_nm (pg_name (i := 6) T.nd rfl (Or.inl rfl)) rfl) (c_one (s_up (s_app1 (i := 4) (pv 4) (x_own1 T (c_law_pick Y) (by decide) rfl (xa_cons (x_var (pv 0) rfl) (xa_cons (x_var (pv 1) rfl) xa_nil))) rfl) (owS_le (by decide)) (by decide)))) (owS_le (by decide)) (by decide)) (owS_le (by decide)) (by decide))))) (owS_le (by decide)) (by decide)) (c_one (c_if (t_cmp T.nin n_notin b_notin (w_of (x_var (pv 3) rfl)) (w_of (x_tup (xa_cons (x_str (s := "not")) (xa_cons (x_str (s := "shift")) (xa_cons (x_str (s := "minus")) xa_nil))))) rfl) (c_one (c_end (o1 := owS [4]) (s_up (s_app1 (i := 4) (pv 4) (x_own1 T (c_law_pick Y) (by decide) rfl (xa_cons (x_var (pv 0) rfl) (xa_cons (x_var (pv 1) rfl) xa_nil))) rfl) (owS_le (by decide)) (by decide)) (owS_le (by decide)) (by decide))) (c_cut (o1 := owS []) c_nil (owS_le (by decide)) (by decide)))))
  (c_one (s_up (s_ret (x_join (w_of (x_str (s := " "))) (w_of (x_bin y_add n_add (w_of (e_of (f_lst (xa_cons (x_var (pv 3) rfl) xa_nil)))) (w_of (e_of (f_lc (own := [("number", 7)]) T (i_gr (i_seq (x_var (pv 4) rfl))) (blkOk_by (N := N__law_deed_line) (sc := sc__law_deed_line) (own := [("number", 7)]) (by decide +kernel)) (fun _ _ _ _ _ T1 => (g_nm (pg_name (i := 7) T1.nd rfl (Or.inl rfl)) rfl)) (fun _ _ _ _ _ T1 => ts_nil) (fun _ _ _ _ _ T1 => (x_strI rfl rfl (Y.free 3) (w_of (x_var (pv 7) rfl)))) (by decide)))))))) (owS_le (by decide)) (by decide)))))))))
theorem S__law_lines : FnScope N__law_lines ["pool"] sc__law_lines := ⟨rfl, rfl, rfl, by decide +kernel, rfl, by decide +kernel, by decide +kernel⟩
theorem c_law_lines (Y : Fs P w K mg) : CallOk P w K mg base 3 "_law_lines" d__law_lines ["pool"] 1 m_law_lines :=
  def_ok (d := d__law_lines) (N := N__law_lines) (ps := ["pool"]) (p := 1) (m := b__law_lines) (k := 2) (ow := ow__law_lines) (oN := owS []) (oB := owS []) (Y.def_ 5) (Y.glo 24) S__law_lines rfl rfl (by decide) (fun _ _ _ _ _ _ us hl => match us, hl with | [_], _ => rfl) (fun cdv A outer s H E T => (c_cons (o1 := owS []) (s_up (s_set (ps_set (i := 1) T.nd rfl (Or.inl rfl) (x_bin y_add n_add (w_of x_int) (w_of (x_own1 T (c_law_pick Y) (by decide) rfl (xa_cons (x_var (pv 0) rfl) (xa_cons x_int xa_nil)))))) rfl) (owS_le (by decide)) (by decide))
  (c_cons (o1 := owS []) (s_up (s_set (ps_set (i := 2) T.nd rfl (Or.inl rfl) (x_cmp T.eq n_eq (w_of (x_own1 T (c_law_pick Y) (by decide) rfl (xa_cons (x_var (pv 0) rfl) (xa_cons x_int xa_nil)))) (w_of x_int) rfl)) rfl) (owS_le (by decide)) (by decide))
  (c_cons (o1 := owS []) (c_if (t_cmp T.eq n_eq b_eq (w_of (x_own1 T (c_law_pick Y) (by decide) rfl (xa_cons (x_var (pv 0) rfl) (xa_cons x_int xa_nil)))) (w_of x_int) rfl) (c_cons (o1 := owS []) (s_up (s_set (ps_set (i := 3) T.nd rfl (Or.inl rfl) (x_own1 T (c_law_pick Y) (by decide) rfl (xa_cons (x_var (pv 0) rfl) (xa_cons x_int xa_nil)))) rfl) (owS_le (by decide)) (by decide))
  (c_cons (o1 := owS []) (c_if (t_tst (w_of (x_var (pv 2) rfl)) (by intro _; rfl)) (c_one (s_up (s_set (ps_set (i := 3) T.nd rfl (Or.inl rfl) (x_bin y_add n_add (w_of x_int) (w_of (x_own1 T (c_law_pick Y) (by decide) rfl (xa_cons (x_var (pv 0) rfl) (xa_cons x_int xa_nil)))))) rfl) (owS_le (by decide)) (by decide))) (c_cut (o1 := owS []) c_nil (owS_le (by decide)) (by decide)))
  (c_cons (o1 := owS [4]) (c_own (ps_set (i := 4) T.nd rfl (Or.inl rfl) (f_lst (xa_cons (x_bin y_add n_add (w_of (x_bin y_add n_add (w_of (x_bin y_add n_add (w_of (x_bin y_add n_add (w_of (x_bin y_add n_add (w_of (x_str (s := "row "))) (w_of (x_strI rfl rfl (Y.free 3) (w_of (x_var (pv 1) rfl)))))) (w_of (x_str (s := " "))))) (w_of (x_strI rfl rfl (Y.free 3) (w_of (x_var (pv 3) rfl)))))) (w_of (x_str (s := " "))))) (w_of (x_strI rfl rfl (Y.free 3) (w_of (x_own1 T (c_law_pick Y) (by decide) rfl (xa_cons (x_var (pv 0) rfl) (xa_cons (x_bin y_add n_add (w_of (x_var (pv 1) rfl)) (w_of (x_var (pv 3) rfl))) xa_nil))))))) xa_nil))) rfl (owS_add (by decide)))
  (c_cons (o1 := owS [4]) (s_up (s_for T.po T.calm (i_rng1 rfl (Y.free 1) (x_var (pv 3) rfl)) (g_nm (pg_name (i := 5) T.nd rfl (Or.inl rfl)) rfl) (c_one (s_up (s_app1 (i := 4) (pv 4) (x_own1 T (c_law_deed_line Y) (by decide) rfl (xa_cons (x_var (pv 0) rfl) (xa_cons (x_bin y_add n_add (w_of (x_var (pv 1) rfl)) (w_of (x_var (pv 5) rfl))) xa_nil))) rfl) (owS_le (by decide)) (by decide)))) (owS_le (by decide)) (by decide))
  (c_cut (o1 := owS []) (c_one (s_up (s_ret (x_var (pv 4) rfl)) (owS_le (by decide)) (by decide))) (owS_le (by decide)) (by decide)))))) (c_cut (o1 := owS []) c_nil (owS_le (by decide)) (by decide)))
  (c_cons (o1 := owS []) (s_up (s_set (ps_set (i := 3) T.nd rfl (Or.inl rfl) (x_bin y_add n_add (w_of x_int) (w_of (x_own1 T (c_law_pick Y) (by decide) rfl (xa_cons (x_var (pv 0) rfl) (xa_cons x_int xa_nil)))))) rfl) (owS_le (by decide)) (by decide))
  (c_cons (o1 := owS []) (c_if (t_tst (w_of (x_var (pv 2) rfl)) (by intro _; rfl)) (c_cons (o1 := owS []) (s_up (s_set (ps_set (i := 1) T.nd rfl (Or.inl rfl) x_int) rfl) (owS_le (by decide)) (by decide))
  (c_one (s_up (s_set (ps_set (i := 3) T.nd rfl (Or.inl rfl) (x_bin y_add n_add (w_of x_int) (w_of (x_own1 T (c_law_pick Y) (by decide) rfl (xa_cons (x_var (pv 0) rfl) (xa_cons x_int xa_nil)))))) rfl) (owS_le (by decide)) (by decide)))) (c_cut (o1 := owS []) c_nil (owS_le (by decide)) (by decide)))
  (c_cons (o1 := owS [4]) (c_own (ps_set (i := 4) T.nd rfl (Or.inl rfl) (f_lst (xa_cons (x_bin y_add n_add (w_of (x_bin y_add n_add (w_of (x_bin y_add n_add (w_of (x_str (s := "machine "))) (w_of (x_strI rfl rfl (Y.free 3) (w_of (x_var (pv 1) rfl)))))) (w_of (x_str (s := " "))))) (w_of (x_strI rfl rfl (Y.free 3) (w_of (x_var (pv 3) rfl))))) xa_nil))) rfl (owS_add (by decide)))
  (c_cons (o1 := owS [4]) (s_up (s_for T.po T.calm (i_rng1 rfl (Y.free 1) (x_var (pv 3) rfl)) (g_nm (pg_name (i := 6) T.nd rfl (Or.inl rfl)) rfl) (c_cons (o1 := owS [4, 7]) (c_own (ps_set (i := 7) T.nd rfl (Or.inl rfl) (f_lst xa_nil)) rfl (owS_add (by decide)))
  (c_cons (o1 := owS [4, 7]) (s_up (s_for T.po T.calm (i_rng1 rfl (Y.free 1) (x_bin y_shl n_shl (w_of x_int) (w_of (x_var (pv 1) rfl)))) (g_nm (pg_name (i := 8) T.nd rfl (Or.inl rfl)) rfl) (c_one (s_up (s_app1 (i := 7) (pv 7) (x_bin y_add n_add (w_of (x_bin y_add n_add (w_of (x_strI rfl rfl (Y.free 3) (w_of (x_own1 T (c_law_pick Y) (by decide) rfl (xa_cons (x_var (pv 0) rfl) (xa_cons (x_var (pv 3) rfl) xa_nil)))))) (w_of (x_str (s := " "))))) (w_of (x_strI rfl rfl (Y.free 3) (w_of (x_own1 T (c_law_pick Y) (by decide) rfl (xa_cons (x_var (pv 0) rfl) (xa_cons x_int xa_nil))))))) rfl) (owS_le (by decide)) (by decide)))) (owS_le (by decide)) (by decide))
  (c_cut (o1 := owS [4]) (c_one (s_up (s_app1 (i := 4) (pv 4) (x_join (w_of (x_str (s := " "))) (w_of (x_var (pv 7) rfl))) rfl) (owS_le (by decide)) (by decide))) (owS_le (by decide)) (by decide))))) (owS_le (by decide)) (by decide))
  (c_cut (o1 := owS []) (c_one (s_up (s_ret (x_var (pv 4) rfl)) (owS_le (by decide)) (by decide))) (owS_le (by decide)) (by decide))))))))))
theorem S__law_number : FnScope N__law_number ["word"] sc__law_number := ⟨rfl, rfl, rfl, by decide +kernel, rfl, by decide +kernel, by decide +kernel⟩
theorem c_law_number (Y : Fs P w K mg) : CallOk P w K mg base 1 "_law_number" d__law_number ["word"] 1 m_law_number :=
  def_ok (d := d__law_number) (N := N__law_number) (ps := ["word"]) (p := 1) (m := b__law_number) (k := 0) (ow := ow__law_number) (Y.def_ 6) (Y.glo 25) S__law_number rfl rfl (by decide) (fun _ _ _ _ _ _ us hl => match us, hl with | [_], _ => rfl) (fun cdv A outer s H E T => (ss_cons (s_if (PW.pt (t_or (t_cmp T.eq n_eq b_eq (w_of (x_var (pv 0) rfl)) (w_of (x_str (s := ""))) rfl) (t_or (t_cmp y_gt n_gt b_gt (w_of (x_b1 v_len n_len rfl (Y.free 2) hv_len (w_of (x_var (pv 0) rfl)))) (w_of x_int) rfl) (t_or1 (PW.pt (t_and (t_cmp y_gt n_gt b_gt (w_of (x_b1 v_len n_len rfl (Y.free 2) hv_len (w_of (x_var (pv 0) rfl)))) (w_of x_int) rfl) (t_and1 (t_cmp T.eq n_eq b_eq (w_of (x_idx T.ix (w_of (x_var (pv 0) rfl)) (w_of x_int))) (w_of (x_str (s := "0"))) rfl)))))))) (ss_one (s_ret x_non)) ss_nil)
  (ss_cons (s_for T.po T.calm (i_str (x_var (pv 0) rfl)) (g_nm (pg_name (i := 1) T.nd rfl (Or.inl rfl)) rfl) (ss_one (s_if (t_cmp y_notinS n_notinS b_notinS (w_of (x_var (pv 1) rfl)) (w_of (x_str (s := "0123456789"))) rfl) (ss_one (s_ret x_non)) ss_nil)))
  (ss_one (s_ret (x_t1 v_intx n_intx rfl (Y.free 0) hv_int (w_of (x_var (pv 0) rfl))))))))
theorem S__law_numbers : FnScope N__law_numbers ["words"] sc__law_numbers := ⟨rfl, rfl, rfl, by decide +kernel, rfl, by decide +kernel, by decide +kernel⟩
theorem c_law_numbers (Y : Fs P w K mg) : CallOk P w K mg base 2 "_law_numbers" d__law_numbers ["words"] 1 m_law_numbers :=
  def_ok (d := d__law_numbers) (N := N__law_numbers) (ps := ["words"]) (p := 1) (m := b__law_numbers) (k := 1) (ow := ow__law_numbers) (Y.def_ 7) (Y.glo 26) S__law_numbers rfl rfl (by decide) (fun _ _ _ _ _ _ us hl => match us, hl with | [_], _ => rfl) (fun cdv A outer s H E T => (ss_cons (s_set (s_f (s_lc0 (i := 1) (own := [("word", 2)]) T rfl rfl rfl (i_gr (i_seq (x_var (pv 0) rfl))) (blkOk_by (N := N__law_numbers) (sc := sc__law_numbers) (own := [("word", 2)]) (by decide +kernel)) (fun _ _ _ _ _ T1 => (g_nm (pg_name (i := 2) T1.nd rfl (Or.inl rfl)) rfl)) (fun _ _ _ _ _ T1 => ts_nil) (fun _ _ _ _ _ T1 => (x_own1 T1 (c_law_number Y) (by decide) rfl (xa_cons (x_var (pv 2) rfl) xa_nil))) (by decide))) rfl)
  (ss_cons (s_if (t_cmp T.inn n_in b_in (w_of x_non) (w_of (x_var (pv 1) rfl)) rfl) (ss_one (s_ret x_non)) ss_nil)
  (ss_one (s_ret (x_var (pv 1) rfl))))))
theorem S__law_deed : FnScope N__law_deed ["line", "values"] sc__law_deed := ⟨rfl, rfl, rfl, by decide +kernel, rfl, by decide +kernel, by decide +kernel⟩
theorem c_law_deed (Y : Fs P w K mg) : CallOk P w K mg base 3 "_law_deed" d__law_deed ["line", "values"] 2 m_law_deed :=
  def_ok (d := d__law_deed) (N := N__law_deed) (ps := ["line", "values"]) (p := 2) (m := b__law_deed) (k := 2) (ow := ow__law_deed) (Y.def_ 8) (Y.glo 27) S__law_deed rfl rfl (by decide) (fun _ _ _ _ _ _ us hl => match us, hl with | [_, _], _ => rfl) (fun cdv A outer s H E T => (ss_cons (s_set (ps_set (i := 2) T.nd rfl (Or.inl rfl) (e_of (f_split (w_of (x_var (pv 0) rfl)) (w_of (x_str (s := " ")))))) rfl)
  (ss_cons (s_set (ps_set (i := 3) T.nd rfl (Or.inl rfl) (x_own1 T (c_law_numbers Y) (by decide) rfl (xa_cons (x_slc (w_of (x_var (pv 2) rfl)) (o_some x_int) o_none) xa_nil))) rfl)
  (ss_cons (s_if (t_isN (w_of (x_var (pv 3) rfl))) (ss_one (s_ret x_non)) ss_nil)
  (ss_cons (s_set (ps_set (i := 4) T.nd rfl (Or.inl rfl) (x_var (pv 3) rfl)) rfl)
  (ss_cons (s_set (ps_set (i := 5) T.nd rfl (Or.inl rfl) x_int) rfl)
  (ss_cons (s_if (t_cmp T.inn n_in b_in (w_of (x_idx T.ix (w_of (x_var (pv 2) rfl)) (w_of x_int))) (w_of (x_tup (xa_cons (x_str (s := "zero")) (xa_cons (x_str (s := "ones")) xa_nil)))) rfl) (ss_one (s_set (ps_set (i := 5) T.nd rfl (Or.inl rfl) x_int) rfl)) (ss_one (s_if (t_cmp T.inn n_in b_in (w_of (x_idx T.ix (w_of (x_var (pv 2) rfl)) (w_of x_int))) (w_of (x_tup (xa_cons (x_str (s := "not")) (xa_cons (x_str (s := "shift")) (xa_cons (x_str (s := "minus")) xa_nil))))) rfl) (ss_one (s_set (ps_set (i := 5) T.nd rfl (Or.inl rfl) x_int) rfl)) (ss_one (s_if (t_cmp T.eq n_eq b_eq (w_of (x_idx T.ix (w_of (x_var (pv 2) rfl)) (w_of x_int))) (w_of (x_str (s := "count"))) rfl) (ss_cons (s_if (PW.pt (t_or (t_cmp y_lt n_lt b_lt (w_of (x_b1 v_len n_len rfl (Y.free 2) hv_len (w_of (x_var (pv 3) rfl)))) (w_of x_int) rfl) (t_or (t_cmp y_gt n_gt b_gt (w_of (x_b1 v_len n_len rfl (Y.free 2) hv_len (w_of (x_var (pv 3) rfl)))) (w_of x_int) rfl) (t_or (t_cmp T.nin n_notin b_notin (w_of (x_idx T.ix (w_of (x_var (pv 3) rfl)) (w_of x_int))) (w_of (x_tup (xa_cons x_int (xa_cons x_int (xa_cons x_int xa_nil))))) rfl) (t_or1 (t_cmp y_ge n_ge b_ge (w_of (x_idx T.ix (w_of (x_var (pv 3) rfl)) (w_of x_int))) (w_of (x_idx T.ix (w_of (x_var (pv 3) rfl)) (w_of x_int))) rfl)))))) (ss_one (s_ret x_non)) ss_nil)
  (ss_cons (s_set (ps_set (i := 4) T.nd rfl (Or.inl rfl) (x_slc (w_of (x_var (pv 3) rfl)) (o_some x_int) o_none)) rfl)
  (ss_one (s_set (ps_set (i := 5) T.nd rfl (Or.inl rfl) (x_b1 v_len n_len rfl (Y.free 2) hv_len (w_of (x_var (pv 4) rfl)))) rfl)))) (ss_one (s_if (t_cmp T.nin n_notin b_notin (w_of (x_idx T.ix (w_of (x_var (pv 2) rfl)) (w_of x_int))) (w_of (x_tup (xa_cons (x_str (s := "and")) (xa_cons (x_str (s := "or")) (xa_cons (x_str (s := "xor")) (xa_cons (x_str (s := "add")) (xa_cons (x_str (s := "sub")) xa_nil))))))) rfl) (ss_one (s_ret x_non)) ss_nil)))))))
  (ss_cons (s_if (t_cmp T.ne n_ne b_ne (w_of (x_b1 v_len n_len rfl (Y.free 2) hv_len (w_of (x_var (pv 4) rfl)))) (w_of (x_var (pv 5) rfl)) rfl) (ss_one (s_ret x_non)) ss_nil)
  (ss_cons (s_for T.po T.calm (i_seq (x_var (pv 4) rfl)) (g_nm (pg_name (i := 6) T.nd rfl (Or.inl rfl)) rfl) (ss_one (s_if (t_cmp y_ge n_ge b_ge (w_of (x_var (pv 6) rfl)) (w_of (x_var (pv 1) rfl)) rfl) (ss_one (s_ret x_non)) ss_nil)))
  (ss_cons (s_if (t_cmp T.eq n_eq b_eq (w_of (x_idx T.ix (w_of (x_var (pv 2) rfl)) (w_of x_int))) (w_of (x_str (s := "count"))) rfl) (ss_one (s_ret (x_tup (xa_cons (x_idx T.ix (w_of (x_var (pv 2) rfl)) (w_of x_int)) (xa_cons (x_idx T.ix (w_of (x_var (pv 3) rfl)) (w_of x_int)) (xa_cons (x_idx T.ix (w_of (x_var (pv 3) rfl)) (w_of x_int)) (xa_cons (x_t1 v_tuple n_tuple rfl (Y.free 6) hv_tuple (w_of (x_var (pv 4) rfl))) xa_nil))))))) ss_nil)
  (ss_one (s_ret (x_bin y_add n_add (w_of (x_tup (xa_cons (x_idx T.ix (w_of (x_var (pv 2) rfl)) (w_of x_int)) xa_nil))) (w_of (x_t1 v_tuple n_tuple rfl (Y.free 6) hv_tuple (w_of (x_var (pv 4) rfl)))))))))))))))))
theorem S__law_head : FnScope N__law_head ["line", "name"] sc__law_head := ⟨rfl, rfl, rfl, by decide +kernel, rfl, by decide +kernel, by decide +kernel⟩
theorem c_law_head (Y : Fs P w K mg) : CallOk P w K mg base 3 "_law_head" d__law_head ["line", "name"] 2 m_law_head :=
  def_ok (d := d__law_head) (N := N__law_head) (ps := ["line", "name"]) (p := 2) (m := b__law_head) (k := 2) (ow := ow__law_head) (Y.def_ 9) (Y.glo 28) S__law_head rfl rfl (by decide) (fun _ _ _ _ _ _ us hl => match us, hl with | [_, _], _ => rfl) (fun cdv A outer s H E T => (ss_cons (s_set (ps_set (i := 2) T.nd rfl (Or.inl rfl) (e_of (f_split (w_of (x_var (pv 0) rfl)) (w_of (x_str (s := " ")))))) rfl)
  (ss_cons (s_set (ps_set (i := 3) T.nd rfl (Or.inl rfl) (x_own1 T (c_law_numbers Y) (by decide) rfl (xa_cons (x_slc (w_of (x_var (pv 2) rfl)) (o_some x_int) o_none) xa_nil))) rfl)
  (ss_cons (s_if (PW.pt (t_or (t_cmp T.ne n_ne b_ne (w_of (x_idx T.ix (w_of (x_var (pv 2) rfl)) (w_of x_int))) (w_of (x_var (pv 1) rfl)) rfl) (t_or (t_isN (w_of (x_var (pv 3) rfl))) (t_or1 (t_cmp T.ne n_ne b_ne (w_of (x_b1 v_len n_len rfl (Y.free 2) hv_len (w_of (x_var (pv 3) rfl)))) (w_of (x_bin y_add n_add (w_of x_int) (w_of (x_t1 v_int n_int rfl (Y.free 0) hv_int (w_of (x_cmp T.eq n_eq (w_of (x_var (pv 1) rfl)) (w_of (x_str (s := "row"))) rfl)))))) rfl))))) (ss_one (s_ret x_non)) ss_nil)
  (ss_cons (s_if (t_not (t_chain y_le y_le n_le n_le (Bl.chain n_le n_le b_le) (w_of x_int) (w_of (x_idx T.ix (w_of (x_var (pv 3) rfl)) (w_of x_int))) (w_of x_int))) (ss_one (s_ret x_non)) ss_nil)
  (ss_cons (s_if (PW.pt (t_or (PW.pt (t_and (t_cmp T.eq n_eq b_eq (w_of (x_var (pv 1) rfl)) (w_of (x_str (s := "row"))) rfl) (t_and1 (t_cmp y_ge n_ge b_ge (w_of (x_idx T.ix (w_of (x_var (pv 3) rfl)) (w_of x_int))) (w_of (x_bin y_add n_add (w_of (x_idx T.ix (w_of (x_var (pv 3) rfl)) (w_of x_int))) (w_of (x_idx T.ix (w_of (x_var (pv 3) rfl)) (w_of x_int))))) rfl)))) (t_or1 (PW.pt (t_and (t_cmp T.eq n_eq b_eq (w_of (x_var (pv 1) rfl)) (w_of (x_str (s := "machine"))) rfl) (t_and1 (t_cmp T.eq n_eq b_eq (w_of (x_idx T.ix (w_of (x_var (pv 3) rfl)) (w_of x_int))) (w_of x_int) rfl))))))) (ss_one (s_ret x_non)) ss_nil)
  (ss_one (s_ret (x_var (pv 3) rfl)))))))))
theorem S__law_state : FnScope N__law_state ["line", "inputs", "many"] sc__law_state := ⟨rfl, rfl, rfl, by decide +kernel, rfl, by decide +kernel, by decide +kernel⟩
theorem c_law_state (Y : Fs P w K mg) : CallOk P w K mg base 3 "_law_state" d__law_state ["line", "inputs", "many"] 3 m_law_state :=
  def_ok (d := d__law_state) (N := N__law_state) (ps := ["line", "inputs", "many"]) (p := 3) (m := b__law_state) (k := 2) (ow := ow__law_state) (Y.def_ 10) (Y.glo 29) S__law_state rfl rfl (by decide) (fun _ _ _ _ _ _ us hl => match us, hl with | [_, _, _], _ => rfl) (fun cdv A outer s H E T => (ss_cons (s_set (ps_set (i := 3) T.nd rfl (Or.inl rfl) (x_own1 T (c_law_numbers Y) (by decide) rfl (xa_cons (e_of (f_split (w_of (x_var (pv 0) rfl)) (w_of (x_str (s := " "))))) xa_nil))) rfl)
  (ss_cons (s_if (PW.pt (t_or (t_isN (w_of (x_var (pv 3) rfl))) (t_or1 (t_cmp T.ne n_ne b_ne (w_of (x_b1 v_len n_len rfl (Y.free 2) hv_len (w_of (x_var (pv 3) rfl)))) (w_of (x_bin y_shl n_shl (w_of x_int) (w_of (x_var (pv 1) rfl)))) rfl)))) (ss_one (s_ret x_non)) ss_nil)
  (ss_cons (s_set (ps_set (i := 4) T.nd rfl (Or.inl rfl) (e_of (f_evK (k := 0) (w_of (x_var (pv 3) rfl))))) rfl)
  (ss_cons (s_set (ps_set (i := 5) T.nd rfl (Or.inl rfl) (e_of (f_evK (k := 1) (w_of (x_var (pv 3) rfl))))) rfl)
  (ss_cons (s_if (PW.pt (t_or (t_cmp y_ge n_ge b_ge (w_of (x_b1 (v_maxT T.calm (by have := T.hr.un; omega)) n_maxT rfl (Y.free 8) hv_max (w_of (x_var (pv 4) rfl)))) (w_of (x_var (pv 2) rfl)) rfl) (t_or1 (t_cmp y_gt n_gt b_gt (w_of (x_b1 (v_maxT T.calm (by have := T.hr.un; omega)) n_maxT rfl (Y.free 8) hv_max (w_of (x_var (pv 5) rfl)))) (w_of x_int) rfl)))) (ss_one (s_ret x_non)) ss_nil)
  (ss_one (s_ret (x_tup (xa_cons (x_t1 v_tuple n_tuple rfl (Y.free 6) hv_tuple (w_of (x_var (pv 4) rfl))) (xa_cons (x_t1 v_tuple n_tuple rfl (Y.free 6) hv_tuple (w_of (x_var (pv 5) rfl))) xa_nil)))))))))))
theorem S__law_read : FnScope N__law_read ["text", "name"] sc__law_read := ⟨rfl, rfl, rfl, by decide +kernel, rfl, by decide +kernel, by decide +kernel⟩
theorem c_law_read (Y : Fs P w K mg) : CallOk P w K mg base 4 "_law_read" d__law_read ["text", "name"] 2 m_law_read :=
  def_ok (d := d__law_read) (N := N__law_read) (ps := ["text", "name"]) (p := 2) (m := b__law_read) (k := 3) (ow := ow__law_read) (oN := owS []) (oB := owS []) (Y.def_ 11) (Y.glo 30) S__law_read rfl rfl (by decide) (fun _ _ _ _ _ _ us hl => match us, hl with | [_, _], _ => rfl) (fun cdv A outer s H E T => (c_cons (o1 := owS []) (s_up (s_set (ps_set (i := 2) T.nd rfl (Or.inl rfl) (e_of (f_split (w_of (x_var (pv 0) rfl)) (w_of (x_str (s := "\n")))))) rfl) (owS_le (by decide)) (by decide))
  (c_cons (o1 := owS []) (s_up (s_set (ps_set (i := 3) T.nd rfl (Or.inl rfl) (x_own1 T (c_law_head Y) (by decide) rfl (xa_cons (x_idx T.ix (w_of (x_var (pv 2) rfl)) (w_of x_int)) (xa_cons (x_var (pv 1) rfl) xa_nil)))) rfl) (owS_le (by decide)) (by decide))
  (c_cons (o1 := owS []) (c_if (t_isN (w_of (x_var (pv 3) rfl))) (c_one (s_up (s_ret (x_tup (xa_cons (x_str (s := "wrong")) (xa_cons x_int (xa_cons x_non xa_nil))))) (owS_le (by decide)) (by decide))) (c_cut (o1 := owS []) c_nil (owS_le (by decide)) (by decide)))
  (c_cons (o1 := owS []) (s_up (s_set (ps_set (i := 4) T.nd rfl (Or.inl rfl) (x_bin y_add n_add (w_of (x_b1 v_len n_len rfl (Y.free 2) hv_len (w_of (x_idx T.ix (w_of (x_var (pv 2) rfl)) (w_of x_int))))) (w_of x_int))) rfl) (owS_le (by decide)) (by decide))
  (c_cons (o1 := owS [5]) (c_own (ps_set (i := 5) T.nd rfl (Or.inl rfl) (f_lst xa_nil)) rfl (owS_add (by decide)))
  (c_cons (o1 := owS [5]) (s_up (s_for T.po T.calm (i_rng2 rfl (Y.free 1) x_int (x_b1 v_len n_len rfl (Y.free 2) hv_len (w_of (x_var (pv 2) rfl)))) (g_nm (pg_name (i := 6) T.nd rfl (Or.inl rfl)) rfl) (c_cons (o1 := owS [5]) (c_if (t_cmp y_gt n_gt b_gt (w_of (x_var (pv 6) rfl)) (w_of (x_idx T.ix (w_of (x_var (pv 3) rfl)) (w_of x_int))) rfl) (c_one (s_up (s_ret (x_tup (xa_cons (x_str (s := "wrong")) (xa_cons (x_var (pv 4) rfl) (xa_cons x_non xa_nil))))) (owS_le (by decide)) (by decide))) (c_cut (o1 := owS [5]) c_nil (owS_le (by decide)) (by decide)))
  (c_cons (o1 := owS [5]) (c_if (t_cmp T.eq n_eq b_eq (w_of (x_var (pv 1) rfl)) (w_of (x_str (s := "row"))) rfl) (c_one (s_up (s_set (ps_set (i := 7) T.nd rfl (Or.inl rfl) (x_own1 T (c_law_deed Y) (by decide) rfl (xa_cons (x_idx T.ix (w_of (x_var (pv 2) rfl)) (w_of (x_var (pv 6) rfl))) (xa_cons (x_bin y_sub n_sub (w_of (x_bin y_add n_add (w_of (x_idx T.ix (w_of (x_var (pv 3) rfl)) (w_of x_int))) (w_of (x_var (pv 6) rfl)))) (w_of x_int)) xa_nil)))) rfl) (owS_le (by decide)) (by decide))) (c_one (s_up (s_set (ps_set (i := 7) T.nd rfl (Or.inl rfl) (x_own1 T (c_law_state Y) (by decide) rfl (xa_cons (x_idx T.ix (w_of (x_var (pv 2) rfl)) (w_of (x_var (pv 6) rfl))) (xa_cons (x_idx T.ix (w_of (x_var (pv 3) rfl)) (w_of x_int)) (xa_cons (x_idx T.ix (w_of (x_var (pv 3) rfl)) (w_of x_int)) xa_nil))))) rfl) (owS_le (by decide)) (by decide))))
  (c_cons (o1 := owS [5]) (c_if (t_isN (w_of (x_var (pv 7) rfl))) (c_one (s_up (s_ret (x_tup (xa_cons (x_str (s := "wrong")) (xa_cons (x_var (pv 4) rfl) (xa_cons x_non xa_nil))))) (owS_le (by decide)) (by decide))) (c_cut (o1 := owS [5]) c_nil (owS_le (by decide)) (by decide)))
  (c_cons (o1 := owS [5]) (s_up (s_app1 (i := 5) (pv 5) (x_var (pv 7) rfl) rfl) (owS_le (by decide)) (by decide))
  (c_one (s_up (s_set (ps_set (i := 4) T.nd rfl (Or.inl rfl) (x_bin y_add n_add (w_of (x_bin y_add n_add (w_of (x_var (pv 4) rfl)) (w_of (x_b1 v_len n_len rfl (Y.free 2) hv_len (w_of (x_idx T.ix (w_of (x_var (pv 2) rfl)) (w_of (x_var (pv 6) rfl)))))))) (w_of x_int))) rfl) (owS_le (by decide)) (by decide)))))))) (owS_le (by decide)) (by decide))
  (c_cut (o1 := owS []) (c_cons (o1 := owS []) (c_if (t_cmp y_lt n_lt b_lt (w_of (x_b1 v_len n_len rfl (Y.free 2) hv_len (w_of (x_var (pv 5) rfl)))) (w_of (x_idx T.ix (w_of (x_var (pv 3) rfl)) (w_of x_int))) rfl) (c_one (s_up (s_ret (x_tup (xa_cons (x_str (s := "wrong")) (xa_cons (x_b1 v_len n_len rfl (Y.free 2) hv_len (w_of (x_var (pv 0) rfl))) (xa_cons x_non xa_nil))))) (owS_le (by decide)) (by decide))) (c_cut (o1 := owS []) c_nil (owS_le (by decide)) (by decide)))
  (c_one (s_up (s_ret (x_tup (xa_cons (x_str (s := "right")) (xa_cons (x_var (pv 3) rfl) (xa_cons (x_var (pv 5) rfl) xa_nil))))) (owS_le (by decide)) (by decide)))) (owS_le (by decide)) (by decide)))))))))
theorem S_is_integer : FnScope N_is_integer ["value"] sc_is_integer := ⟨rfl, rfl, rfl, by decide +kernel, rfl, by decide +kernel, by decide +kernel⟩
theorem c_is_integer (Y : Fs P w K mg) : CallOk P w K mg base 1 "is_integer" d_is_integer ["value"] 1 m_is_integer :=
  def_ok (d := d_is_integer) (N := N_is_integer) (ps := ["value"]) (p := 1) (m := b_is_integer) (k := 0) (ow := ow_is_integer) (Y.def_ 12) (Y.glo 31) S_is_integer rfl rfl (by decide) (fun _ _ _ _ _ _ us hl => match us, hl with | [_], _ => rfl) (fun cdv A outer s H E T => (ss_one (s_ret (x_and (x_isi1 (cs := CS) (t := .int) rfl (kit_of_b (Y.more 0)) rfl (Y.free 4) (w_of (x_var (pv 0) rfl)) (pe_bltn rfl (Y.free 0) hv_int rfl)) (x_one (x_not (x_isi1 (cs := CS) (t := .bl) rfl (kit_of_b (Y.more 0)) rfl (Y.free 4) (w_of (x_var (pv 0) rfl)) (pe_bltn rfl (Y.free 10) hv_bool rfl))))))))
theorem S_is_inputs : FnScope N_is_inputs ["value"] sc_is_inputs := ⟨rfl, rfl, rfl, by decide +kernel, rfl, by decide +kernel, by decide +kernel⟩
theorem c_is_inputs (Y : Fs P w K mg) : CallOk P w K mg base 2 "is_inputs" d_is_inputs ["value"] 1 m_is_inputs :=
  def_ok (d := d_is_inputs) (N := N_is_inputs) (ps := ["value"]) (p := 1) (m := b_is_inputs) (k := 1) (ow := ow_is_inputs) (Y.def_ 13) (Y.glo 32) S_is_inputs rfl rfl (by decide) (fun _ _ _ _ _ _ us hl => match us, hl with | [_], _ => rfl) (fun cdv A outer s H E T => (ss_one (s_ret (x_and (x_own1 T (c_is_integer Y) (by decide) rfl (xa_cons (x_var (pv 0) rfl) xa_nil)) (x_one (x_chain y_le y_le n_le n_le (w_of x_int) (w_of (x_var (pv 0) rfl)) (w_of x_int)))))))
theorem S_as_tuple : FnScope N_as_tuple ["value"] sc_as_tuple := ⟨rfl, rfl, rfl, by decide +kernel, rfl, by decide +kernel, by decide +kernel⟩
theorem c_as_tuple (Y : Fs P w K mg) : CallOk P w K mg base 1 "as_tuple" d_as_tuple ["value"] 1 m_as_tuple :=
  def_ok (d := d_as_tuple) (N := N_as_tuple) (ps := ["value"]) (p := 1) (m := b_as_tuple) (k := 0) (ow := ow_as_tuple) (Y.def_ 14) (Y.glo 33) S_as_tuple rfl rfl (by decide) (fun _ _ _ _ _ _ us hl => match us, hl with | [_], _ => rfl) (fun cdv A outer s H E T => (ss_cons (s_if (t_tst (w_of (x_isiT (cs := CS) (ts := [.lst, .tup]) rfl (kit_of_b (Y.more 0)) rfl (Y.free 4) (w_of (x_var (pv 0) rfl)) (TyL.cons (t := .lst) (pe_bltn rfl (Y.free 13) hv_list rfl) (TyL.cons (t := .tup) (pe_bltn rfl (Y.free 6) hv_tuple rfl) TyL.nil rfl) rfl) (by decide))) (by intro _; rfl)) (ss_one (s_ret (x_t1 v_tuple n_tuple rfl (Y.free 6) hv_tuple (w_of (x_var (pv 0) rfl))))) ss_nil)
  (ss_one (s_ret x_non))))
theorem S_is_below : FnScope N_is_below ["value", "limit"] sc_is_below := ⟨rfl, rfl, rfl, by decide +kernel, rfl, by decide +kernel, by decide +kernel⟩
theorem c_is_below (Y : Fs P w K mg) : CallOk P w K mg base 2 "is_below" d_is_below ["value", "limit"] 2 m_is_below :=
  def_ok (d := d_is_below) (N := N_is_below) (ps := ["value", "limit"]) (p := 2) (m := b_is_below) (k := 1) (ow := ow_is_below) (Y.def_ 15) (Y.glo 34) S_is_below rfl rfl (by decide) (fun _ _ _ _ _ _ us hl => match us, hl with | [_, _], _ => rfl) (fun cdv A outer s H E T => (ss_one (s_ret (x_and (x_own1 T (c_is_integer Y) (by decide) rfl (xa_cons (x_var (pv 0) rfl) xa_nil)) (x_one (x_chain y_le y_lt n_le n_lt (w_of x_int) (w_of (x_var (pv 0) rfl)) (w_of (x_var (pv 1) rfl))))))))
theorem S_is_line : FnScope N_is_line ["value", "many", "limit"] sc_is_line := ⟨rfl, rfl, rfl, by decide +kernel, rfl, by decide +kernel, by decide +kernel⟩
theorem c_is_line (Y : Fs P w K mg) : CallOk P w K mg base 3 "is_line" d_is_line ["value", "many", "limit"] 3 m_is_line :=
  def_ok (d := d_is_line) (N := N_is_line) (ps := ["value", "many", "limit"]) (p := 3) (m := b_is_line) (k := 2) (ow := ow_is_line) (Y.def_ 16) (Y.glo 35) S_is_line rfl rfl (by decide) (fun _ _ _ _ _ _ us hl => match us, hl with | [_, _, _], _ => rfl) (fun cdv A outer s H E T => (ss_cons (s_if (PW.pt (t_or (t_not (t_tst (w_of (x_isi1 (cs := CS) (t := .tup) rfl (kit_of_b (Y.more 0)) rfl (Y.free 4) (w_of (x_var (pv 0) rfl)) (pe_bltn rfl (Y.free 6) hv_tuple rfl))) (by intro _; rfl))) (t_or1 (t_cmp T.ne n_ne b_ne (w_of (x_b1 v_len n_len rfl (Y.free 2) hv_len (w_of (x_var (pv 0) rfl)))) (w_of (x_var (pv 1) rfl)) rfl)))) (ss_one (s_ret x_bl)) ss_nil)
  (ss_one (s_ret (x_b1 (v_all T.calm) n_all rfl (Y.free 14) hv_all (w_of (e_of (f_lc (own := [("member", 3)]) T (i_gr (i_seq (x_var (pv 0) rfl))) (blkOk_by (N := N_is_line) (sc := sc_is_line) (own := [("member", 3)]) (by decide +kernel)) (fun _ _ _ _ _ T1 => (g_nm (pg_name (i := 3) T1.nd rfl (Or.inl rfl)) rfl)) (fun _ _ _ _ _ T1 => ts_nil) (fun _ _ _ _ _ T1 => (x_own1 T1 (c_is_below Y) (by decide) rfl (xa_cons (x_var (pv 3) rfl) (xa_cons (x_var (pv 2) rfl) xa_nil)))) (by decide)))))))))
theorem S_right_nexts : FnScope N_right_nexts ["value", "letters"] sc_right_nexts := ⟨rfl, rfl, rfl, by decide +kernel, rfl, by decide +kernel, by decide +kernel⟩
theorem c_right_nexts (Y : Fs P w K mg) : CallOk P w K mg base 4 "right_nexts" d_right_nexts ["value", "letters"] 2 m_right_nexts :=
  def_ok (d := d_right_nexts) (N := N_right_nexts) (ps := ["value", "letters"]) (p := 2) (m := b_right_nexts) (k := 3) (ow := ow_right_nexts) (Y.def_ 17) (Y.glo 36) S_right_nexts rfl rfl (by decide) (fun _ _ _ _ _ _ us hl => match us, hl with | [_, _], _ => rfl) (fun cdv A outer s H E T => (ss_cons (s_set (ps_set (i := 2) T.nd rfl (Or.inl rfl) (x_own1 T (c_as_tuple Y) (by decide) rfl (xa_cons (x_var (pv 0) rfl) xa_nil))) rfl)
  (ss_cons (s_if (t_not (t_tst (w_of (x_var (pv 2) rfl)) (by intro _; rfl))) (ss_one (s_raise T (er_InvalidMachine Y) (by decide) rfl (xa_cons (x_str (s := "nexts")) (xa_cons x_int xa_nil)))) ss_nil)
  (ss_cons (s_for T.po T.calm (i_enum rfl (Y.free 12) (x_var (pv 2) rfl)) (g_tup T.calm (gs_cons (g_nm (pg_name (i := 3) T.nd rfl (Or.inl rfl)) rfl) (gs_cons (g_nm (pg_name (i := 4) T.nd rfl (Or.inl rfl)) rfl) gs_nil))) (ss_one (s_if (t_not (t_tst (w_of (x_own1 T (c_is_line Y) (by decide) rfl (xa_cons (x_var (pv 4) rfl) (xa_cons (x_var (pv 1) rfl) (xa_cons (x_b1 v_len n_len rfl (Y.free 2) hv_len (w_of (x_var (pv 2) rfl))) xa_nil))))) (by intro _; rfl))) (ss_one (s_raise T (er_InvalidMachine Y) (by decide) rfl (xa_cons (x_str (s := "nexts")) (xa_cons (x_var (pv 3) rfl) xa_nil)))) ss_nil)))
  (ss_one (s_ret (x_var (pv 2) rfl)))))))
theorem S_right_outs : FnScope N_right_outs ["value", "letters", "states"] sc_right_outs := ⟨rfl, rfl, rfl, by decide +kernel, rfl, by decide +kernel, by decide +kernel⟩
theorem c_right_outs (Y : Fs P w K mg) : CallOk P w K mg base 4 "right_outs" d_right_outs ["value", "letters", "states"] 3 m_right_outs :=
  def_ok (d := d_right_outs) (N := N_right_outs) (ps := ["value", "letters", "states"]) (p := 3) (m := b_right_outs) (k := 3) (ow := ow_right_outs) (Y.def_ 18) (Y.glo 37) S_right_outs rfl rfl (by decide) (fun _ _ _ _ _ _ us hl => match us, hl with | [_, _, _], _ => rfl) (fun cdv A outer s H E T => (ss_cons (s_set (ps_set (i := 3) T.nd rfl (Or.inl rfl) (x_own1 T (c_as_tuple Y) (by decide) rfl (xa_cons (x_var (pv 0) rfl) xa_nil))) rfl)
  (ss_cons (s_if (t_isN (w_of (x_var (pv 3) rfl))) (ss_one (s_raise T (er_InvalidMachine Y) (by decide) rfl (xa_cons (x_str (s := "outs")) (xa_cons x_int xa_nil)))) ss_nil)
  (ss_cons (s_set (ps_set (i := 4) T.nd rfl (Or.inl rfl) (x_b2 (v_min2 T.calm) n_min2 rfl (Y.free 15) hv_min (w_of (x_b1 v_len n_len rfl (Y.free 2) hv_len (w_of (x_var (pv 3) rfl)))) (w_of (x_var (pv 2) rfl)))) rfl)
  (ss_cons (s_for T.po T.calm (i_rng1 rfl (Y.free 1) (x_var (pv 4) rfl)) (g_nm (pg_name (i := 5) T.nd rfl (Or.inl rfl)) rfl) (ss_one (s_if (t_not (t_tst (w_of (x_own1 T (c_is_line Y) (by decide) rfl (xa_cons (x_idx T.ix (w_of (x_var (pv 3) rfl)) (w_of (x_var (pv 5) rfl))) (xa_cons (x_var (pv 1) rfl) (xa_cons x_int xa_nil))))) (by intro _; rfl))) (ss_one (s_raise T (er_InvalidMachine Y) (by decide) rfl (xa_cons (x_str (s := "outs")) (xa_cons (x_var (pv 5) rfl) xa_nil)))) ss_nil)))
  (ss_cons (s_if (t_cmp T.ne n_ne b_ne (w_of (x_b1 v_len n_len rfl (Y.free 2) hv_len (w_of (x_var (pv 3) rfl)))) (w_of (x_var (pv 2) rfl)) rfl) (ss_one (s_raise T (er_InvalidMachine Y) (by decide) rfl (xa_cons (x_str (s := "outs")) (xa_cons (x_var (pv 4) rfl) xa_nil)))) ss_nil)
  (ss_one (s_ret (x_var (pv 3) rfl)))))))))
theorem S_Machine_init : FnScope N_Machine_init ["self", "inputs", "nexts", "outs"] sc_Machine_init := ⟨rfl, rfl, rfl, by decide +kernel, rfl, by decide +kernel, by decide +kernel⟩
theorem c_Machine (Y : Fs P w K mg) : MakeOk P w K mg base 5 "Machine" 4 m_Machine :=
  cls_ok (name := "__init__") (qual := "Machine.__init__") (params := defArgs st_Machine_init) (body := defBody st_Machine_init) (scope := sc_Machine_init) (f := He.ma K (ca K "Machine") "__init__") (N := N_Machine_init) (p := 4) (m := b_Machine_init) (k := 4) (ow := ow_Machine_init) (Y.def_ 19) (Y.glo 7) (Y.mkr 38 (x := "Machine")) S_Machine_init rfl rfl rfl (by decide) (by decide) (fun _ _ _ _ _ _ us hl => match us, hl with | [_, _, _, _], _ => rfl) (fun cdv A outer s H E T => (ss_cons (s_if (t_not (t_tst (w_of (x_own1 T (c_is_inputs Y) (by decide) rfl (xa_cons (x_var (pv 1) rfl) xa_nil))) (by intro _; rfl))) (ss_one (s_raise T (er_InvalidMachine Y) (by decide) rfl (xa_cons (x_str (s := "inputs")) (xa_cons x_int xa_nil)))) ss_nil)
  (ss_cons (s_set (ps_set (i := 4) T.nd rfl (Or.inl rfl) (x_bin y_shl n_shl (w_of x_int) (w_of (x_var (pv 1) rfl)))) rfl)
  (ss_cons (s_setF (att_ok (Y.more 8)) (ps_fld (pv 0) (x_var (pv 1) rfl) rfl) rfl)
  (ss_cons (s_setF (att_ok (Y.more 4)) (ps_fld (pv 0) (x_own1 T (c_right_nexts Y) (by decide) rfl (xa_cons (x_var (pv 2) rfl) (xa_cons (x_var (pv 4) rfl) xa_nil))) rfl) rfl)
  (ss_one (s_setF (att_ok (Y.more 5)) (ps_fld (pv 0) (x_own1 T (c_right_outs Y) (by decide) rfl (xa_cons (x_var (pv 3) rfl) (xa_cons (x_var (pv 4) rfl) (xa_cons (x_b1 v_len n_len rfl (Y.free 2) hv_len (w_of (x_attr (att_ok (Y.more 4)) (x_own (pv 0))))) xa_nil)))) rfl) rfl)))))))
theorem S_plain_number : FnScope N_plain_number ["word", "figures"] sc_plain_number := ⟨rfl, rfl, rfl, by decide +kernel, rfl, by decide +kernel, by decide +kernel⟩
theorem c_plain_number (Y : Fs P w K mg) : CallOk P w K mg base 1 "plain_number" d_plain_number ["word", "figures"] 2 m_plain_number :=
  def_ok (d := d_plain_number) (N := N_plain_number) (ps := ["word", "figures"]) (p := 2) (m := b_plain_number) (k := 0) (ow := ow_plain_number) (Y.def_ 20) (Y.glo 39) S_plain_number rfl rfl (by decide) (fun _ _ _ _ _ _ us hl => match us, hl with | [_, _], _ => rfl) (fun cdv A outer s H E T => (ss_cons (s_if (PW.pt (t_or (t_not (t_chain y_le y_le n_le n_le (Bl.chain n_le n_le b_le) (w_of x_int) (w_of (x_b1 v_len n_len rfl (Y.free 2) hv_len (w_of (x_var (pv 0) rfl)))) (w_of (x_var (pv 1) rfl)))) (t_or1 (PW.pt (t_and (t_cmp T.eq n_eq b_eq (w_of (x_idx T.ix (w_of (x_var (pv 0) rfl)) (w_of x_int))) (w_of (x_str (s := "0"))) rfl) (t_and1 (t_cmp T.ne n_ne b_ne (w_of (x_var (pv 0) rfl)) (w_of (x_str (s := "0"))) rfl))))))) (ss_one (s_ret x_non)) ss_nil)
  (ss_cons (s_if (t_not (t_tst (w_of (x_b1 (v_all T.calm) n_all rfl (Y.free 14) hv_all (w_of (e_of (f_lc (own := [("sign", 2)]) T (i_gr (i_str (x_var (pv 0) rfl))) (blkOk_by (N := N_plain_number) (sc := sc_plain_number) (own := [("sign", 2)]) (by decide +kernel)) (fun _ _ _ _ _ T1 => (g_nm (pg_name (i := 2) T1.nd rfl (Or.inl rfl)) rfl)) (fun _ _ _ _ _ T1 => ts_nil) (fun _ _ _ _ _ T1 => (x_cmp y_inS n_inS (w_of (x_var (pv 2) rfl)) (w_of (x_gstr (s := "0123456789") rfl (Y.str 17))) rfl)) (by decide)))))) (by intro _; rfl))) (ss_one (s_ret x_non)) ss_nil)
  (ss_one (s_ret (x_t1 v_intx n_intx rfl (Y.free 0) hv_int (w_of (x_var (pv 0) rfl))))))))
theorem S_line_numbers : FnScope N_line_numbers ["words"] sc_line_numbers := ⟨rfl, rfl, rfl, by decide +kernel, rfl, by decide +kernel, by decide +kernel⟩
theorem c_line_numbers (Y : Fs P w K mg) : CallOk P w K mg base 2 "line_numbers" d_line_numbers ["words"] 1 m_line_numbers :=
  def_ok (d := d_line_numbers) (N := N_line_numbers) (ps := ["words"]) (p := 1) (m := b_line_numbers) (k := 1) (ow := ow_line_numbers) (Y.def_ 21) (Y.glo 40) S_line_numbers rfl rfl (by decide) (fun _ _ _ _ _ _ us hl => match us, hl with | [_], _ => rfl) (fun cdv A outer s H E T => (ss_cons (s_set (s_f (s_lc0 (i := 1) (own := [("word", 2)]) T rfl rfl rfl (i_gr (i_seq (x_var (pv 0) rfl))) (blkOk_by (N := N_line_numbers) (sc := sc_line_numbers) (own := [("word", 2)]) (by decide +kernel)) (fun _ _ _ _ _ T1 => (g_nm (pg_name (i := 2) T1.nd rfl (Or.inl rfl)) rfl)) (fun _ _ _ _ _ T1 => ts_nil) (fun _ _ _ _ _ T1 => (x_own1 T1 (c_plain_number Y) (by decide) rfl (xa_cons (x_var (pv 2) rfl) (xa_cons (x_gint rfl (Y.int 16)) xa_nil)))) (by decide))) rfl)
  (ss_one (s_ret (x_ifExp (t_cmp T.inn n_in b_in (w_of x_non) (w_of (x_var (pv 1) rfl)) rfl) x_non (x_var (pv 1) rfl))))))
theorem S_head_numbers : FnScope N_head_numbers ["line", "name", "many"] sc_head_numbers := ⟨rfl, rfl, rfl, by decide +kernel, rfl, by decide +kernel, by decide +kernel⟩
theorem c_head_numbers (Y : Fs P w K mg) : CallOk P w K mg base 3 "head_numbers" d_head_numbers ["line", "name", "many"] 3 m_head_numbers :=
  def_ok (d := d_head_numbers) (N := N_head_numbers) (ps := ["line", "name", "many"]) (p := 3) (m := b_head_numbers) (k := 2) (ow := ow_head_numbers) (Y.def_ 22) (Y.glo 41) S_head_numbers rfl rfl (by decide) (fun _ _ _ _ _ _ us hl => match us, hl with | [_, _, _], _ => rfl) (fun cdv A outer s H E T => (ss_cons (s_set (ps_set (i := 3) T.nd rfl (Or.inl rfl) (e_of (f_split (w_of (x_var (pv 0) rfl)) (w_of (x_str (s := " ")))))) rfl)
  (ss_cons (s_if (PW.pt (t_or (t_cmp T.ne n_ne b_ne (w_of (x_idx T.ix (w_of (x_var (pv 3) rfl)) (w_of x_int))) (w_of (x_var (pv 1) rfl)) rfl) (t_or1 (t_cmp T.ne n_ne b_ne (w_of (x_b1 v_len n_len rfl (Y.free 2) hv_len (w_of (x_var (pv 3) rfl)))) (w_of (x_bin y_add n_add (w_of (x_var (pv 2) rfl)) (w_of x_int))) rfl)))) (ss_one (s_ret x_non)) ss_nil)
  (ss_cons (s_set (ps_set (i := 4) T.nd rfl (Or.inl rfl) (x_own1 T (c_line_numbers Y) (by decide) rfl (xa_cons (x_slc (w_of (x_var (pv 3) rfl)) (o_some x_int) o_none) xa_nil))) rfl)
  (ss_cons (s_if (PW.pt (t_or (t_isN (w_of (x_var (pv 4) rfl))) (t_or1 (t_not (t_tst (w_of (x_own1 T (c_is_inputs Y) (by decide) rfl (xa_cons (x_idx T.ix (w_of (x_var (pv 4) rfl)) (w_of x_int)) xa_nil))) (by intro _; rfl)))))) (ss_one (s_ret x_non)) ss_nil)
  (ss_one (s_ret (x_var (pv 4) rfl))))))))
theorem S_state_parts : FnScope N_state_parts ["line", "inputs", "states"] sc_state_parts := ⟨rfl, rfl, rfl, by decide +kernel, rfl, by decide +kernel, by decide +kernel⟩
theorem c_state_parts (Y : Fs P w K mg) : CallOk P w K mg base 3 "state_parts" d_state_parts ["line", "inputs", "states"] 3 m_state_parts :=
  def_ok (d := d_state_parts) (N := N_state_parts) (ps := ["line", "inputs", "states"]) (p := 3) (m := b_state_parts) (k := 2) (ow := ow_state_parts) (Y.def_ 23) (Y.glo 42) S_state_parts rfl rfl (by decide) (fun _ _ _ _ _ _ us hl => match us, hl with | [_, _, _], _ => rfl) (fun cdv A outer s H E T => (ss_cons (s_set (ps_set (i := 3) T.nd rfl (Or.inl rfl) (x_own1 T (c_line_numbers Y) (by decide) rfl (xa_cons (e_of (f_split (w_of (x_var (pv 0) rfl)) (w_of (x_str (s := " "))))) xa_nil))) rfl)
  (ss_cons (s_if (PW.pt (t_or (t_isN (w_of (x_var (pv 3) rfl))) (t_or1 (t_cmp T.ne n_ne b_ne (w_of (x_b1 v_len n_len rfl (Y.free 2) hv_len (w_of (x_var (pv 3) rfl)))) (w_of (x_bin y_shl n_shl (w_of x_int) (w_of (x_var (pv 1) rfl)))) rfl)))) (ss_one (s_ret x_non)) ss_nil)
  (ss_cons (s_set (ps_set (i := 4) T.nd rfl (Or.inl rfl) (x_t1 v_tuple n_tuple rfl (Y.free 6) hv_tuple (w_of (e_of (f_ev0 (w_of (x_var (pv 3) rfl))))))) rfl)
  (ss_cons (s_set (ps_set (i := 5) T.nd rfl (Or.inl rfl) (x_t1 v_tuple n_tuple rfl (Y.free 6) hv_tuple (w_of (e_of (f_evK (k := 1) (w_of (x_var (pv 3) rfl))))))) rfl)
  (ss_cons (s_if (PW.pt (t_or (t_cmp y_ge n_ge b_ge (w_of (x_b1 (v_maxT T.calm (by have := T.hr.un; omega)) n_maxT rfl (Y.free 8) hv_max (w_of (x_var (pv 4) rfl)))) (w_of (x_var (pv 2) rfl)) rfl) (t_or1 (t_cmp y_gt n_gt b_gt (w_of (x_b1 (v_maxT T.calm (by have := T.hr.un; omega)) n_maxT rfl (Y.free 8) hv_max (w_of (x_var (pv 5) rfl)))) (w_of x_int) rfl)))) (ss_one (s_ret x_non)) ss_nil)
  (ss_one (s_ret (x_tup (xa_cons (x_var (pv 4) rfl) (xa_cons (x_var (pv 5) rfl) xa_nil)))))))))))
theorem S_read_machine : FnScope N_read_machine ["text"] sc_read_machine := ⟨rfl, rfl, rfl, by decide +kernel, rfl, by decide +kernel, by decide +kernel⟩
theorem c_read_machine (Y : Fs P w K mg) : CallOk P w K mg base 7 "read_machine" d_read_machine ["text"] 1 m_read_machine :=
  def_ok (d := d_read_machine) (N := N_read_machine) (ps := ["text"]) (p := 1) (m := b_read_machine) (k := 6) (ow := ow_read_machine) (oN := owS []) (oB := owS []) (Y.def_ 24) (Y.glo 43) S_read_machine rfl rfl (by decide) (fun _ _ _ _ _ _ us hl => match us, hl with | [_], _ => rfl) (fun cdv A outer s H E T => (c_cons (o1 := owS []) (s_up (s_set (ps_set (i := 1) T.nd rfl (Or.inl rfl) (e_of (f_split (w_of (x_var (pv 0) rfl)) (w_of (x_str (s := "\n")))))) rfl) (owS_le (by decide)) (by decide))
  (c_cons (o1 := owS []) (s_up (s_set (ps_set (i := 2) T.nd rfl (Or.inl rfl) (x_own1 T (c_head_numbers Y) (by decide) rfl (xa_cons (x_idx T.ix (w_of (x_var (pv 1) rfl)) (w_of x_int)) (xa_cons (x_str (s := "machine")) (xa_cons x_int xa_nil))))) rfl) (owS_le (by decide)) (by decide))
  (c_cons (o1 := owS []) (c_if (PW.pt (t_or (t_isN (w_of (x_var (pv 2) rfl))) (t_or1 (t_cmp T.eq n_eq b_eq (w_of (x_idx T.ix (w_of (x_var (pv 2) rfl)) (w_of x_int))) (w_of x_int) rfl)))) (c_one (s_up (s_raise T (er_InvalidText Y) (by decide) rfl (xa_cons (x_var (pv 0) rfl) (xa_cons x_int xa_nil))) (owS_le (by decide)) (by decide))) (c_cut (o1 := owS []) c_nil (owS_le (by decide)) (by decide)))
  (c_cons (o1 := owS [3]) (c_own (ps_set (i := 3) T.nd rfl (Or.inl rfl) (f_lst xa_nil)) rfl (owS_add (by decide)))
  (c_cons (o1 := owS [3, 4]) (c_own (ps_set (i := 4) T.nd rfl (Or.inl rfl) (f_lst xa_nil)) rfl (owS_add (by decide)))
  (c_cons (o1 := owS [3, 4]) (s_up (s_set (ps_set (i := 5) T.nd rfl (Or.inl rfl) (x_bin y_add n_add (w_of (x_b1 v_len n_len rfl (Y.free 2) hv_len (w_of (x_idx T.ix (w_of (x_var (pv 1) rfl)) (w_of x_int))))) (w_of x_int))) rfl) (owS_le (by decide)) (by decide))
  (c_cons (o1 := owS [3, 4]) (s_up (s_for T.po T.calm (i_enum rfl (Y.free 12) (x_slc (w_of (x_var (pv 1) rfl)) (o_some x_int) o_none)) (g_tup T.calm (gs_cons (g_nm (pg_name (i := 6) T.nd rfl (Or.inl rfl)) rfl) (gs_cons (g_nm (pg_name (i := 7) T.nd rfl (Or.inl rfl)) rfl) gs_nil))) (c_cons (o1 := owS [3, 4]) (s_up (s_set (ps_set (i := 8) T.nd rfl (Or.inl rfl) (x_own1 T (c_state_parts Y) (by decide) rfl (xa_cons (x_var (pv 7) rfl) (xa_cons (x_idx T.ix (w_of (x_var (pv 2) rfl)) (w_of x_int)) (xa_cons (x_idx T.ix (w_of (x_var (pv 2) rfl)) (w_of x_int)) xa_nil))))) rfl) (owS_le (by decide)) (by decide))
  (c_cons (o1 := owS [3, 4]) (c_if (PW.pt (t_or (t_cmp y_ge n_ge b_ge (w_of (x_var (pv 6) rfl)) (w_of (x_idx T.ix (w_of (x_var (pv 2) rfl)) (w_of x_int))) rfl) (t_or1 (t_isN (w_of (x_var (pv 8) rfl)))))) (c_one (s_up (s_raise T (er_InvalidText Y) (by decide) rfl (xa_cons (x_var (pv 0) rfl) (xa_cons (x_var (pv 5) rfl) xa_nil))) (owS_le (by decide)) (by decide))) (c_cut (o1 := owS [3, 4]) c_nil (owS_le (by decide)) (by decide)))
  (c_cons (o1 := owS [3, 4]) (s_up (s_app1 (i := 3) (pv 3) (x_idx T.ix (w_of (x_var (pv 8) rfl)) (w_of x_int)) rfl) (owS_le (by decide)) (by decide))
  (c_cons (o1 := owS [3, 4]) (s_up (s_app1 (i := 4) (pv 4) (x_idx T.ix (w_of (x_var (pv 8) rfl)) (w_of x_int)) rfl) (owS_le (by decide)) (by decide))
  (c_one (s_up (s_aug (ps_aug (i := 5) T.nd rfl (Or.inl rfl) (w_of (x_bin y_add n_add (w_of (x_b1 v_len n_len rfl (Y.free 2) hv_len (w_of (x_var (pv 7) rfl)))) (w_of x_int))) ip_add) rfl h_iadd n_iadd rfl) (owS_le (by decide)) (by decide)))))))) (owS_le (by decide)) (by decide))
  (c_cut (o1 := owS []) (c_cons (o1 := owS []) (c_if (t_cmp y_lt n_lt b_lt (w_of (x_b1 v_len n_len rfl (Y.free 2) hv_len (w_of (x_var (pv 3) rfl)))) (w_of (x_idx T.ix (w_of (x_var (pv 2) rfl)) (w_of x_int))) rfl) (c_one (s_up (s_raise T (er_InvalidText Y) (by decide) rfl (xa_cons (x_var (pv 0) rfl) (xa_cons (x_b1 v_len n_len rfl (Y.free 2) hv_len (w_of (x_var (pv 0) rfl))) xa_nil))) (owS_le (by decide)) (by decide))) (c_cut (o1 := owS []) c_nil (owS_le (by decide)) (by decide)))
  (c_one (s_up (s_ret (x_new (cls := "Machine") T (c_Machine Y) (by decide) rfl (xa_cons (x_idx T.ix (w_of (x_var (pv 2) rfl)) (w_of x_int)) (xa_cons (x_var (pv 3) rfl) (xa_cons (x_var (pv 4) rfl) xa_nil))))) (owS_le (by decide)) (by decide)))) (owS_le (by decide)) (by decide))))))))))
theorem S_are_values : FnScope N_are_values ["numbers", "many"] sc_are_values := ⟨rfl, rfl, rfl, by decide +kernel, rfl, by decide +kernel, by decide +kernel⟩
theorem c_are_values (Y : Fs P w K mg) : CallOk P w K mg base 3 "are_values" d_are_values ["numbers", "many"] 2 m_are_values :=
  def_ok (d := d_are_values) (N := N_are_values) (ps := ["numbers", "many"]) (p := 2) (m := b_are_values) (k := 2) (ow := ow_are_values) (Y.def_ 25) (Y.glo 44) S_are_values rfl rfl (by decide) (fun _ _ _ _ _ _ us hl => match us, hl with | [_, _], _ => rfl) (fun cdv A outer s H E T => (ss_one (s_ret (x_b1 (v_all T.calm) n_all rfl (Y.free 14) hv_all (w_of (e_of (f_lc (own := [("number", 2)]) T (i_gr (i_seq (x_var (pv 0) rfl))) (blkOk_by (N := N_are_values) (sc := sc_are_values) (own := [("number", 2)]) (by decide +kernel)) (fun _ _ _ _ _ T1 => (g_nm (pg_name (i := 2) T1.nd rfl (Or.inl rfl)) rfl)) (fun _ _ _ _ _ T1 => ts_nil) (fun _ _ _ _ _ T1 => (x_own1 T1 (c_is_below Y) (by decide) rfl (xa_cons (x_var (pv 2) rfl) (xa_cons (x_var (pv 1) rfl) xa_nil)))) (by decide))))))))
theorem S_is_count_deed : FnScope N_is_count_deed ["value", "many"] sc_is_count_deed := ⟨rfl, rfl, rfl, by decide +kernel, rfl, by decide +kernel, by decide +kernel⟩
theorem c_is_count_deed (Y : Fs P w K mg) : CallOk P w K mg base 4 "is_count_deed" d_is_count_deed ["value", "many"] 2 m_is_count_deed :=
  def_ok (d := d_is_count_deed) (N := N_is_count_deed) (ps := ["value", "many"]) (p := 2) (m := b_is_count_deed) (k := 3) (ow := ow_is_count_deed) (Y.def_ 26) (Y.glo 45) S_is_count_deed rfl rfl (by decide) (fun _ _ _ _ _ _ us hl => match us, hl with | [_, _], _ => rfl) (fun cdv A outer s H E T => (ss_cons (s_if (t_cmp T.ne n_ne b_ne (w_of (x_b1 v_len n_len rfl (Y.free 2) hv_len (w_of (x_var (pv 0) rfl)))) (w_of x_int) rfl) (ss_one (s_ret x_bl)) ss_nil)
  (ss_cons (s_gen (ps_asg (x_slc (w_of (x_var (pv 0) rfl)) (o_some x_int) o_none) (g_tup T.calm (gs_cons (g_nm (pg_name (i := 2) T.nd rfl (Or.inl rfl)) rfl) (gs_cons (g_nm (pg_name (i := 3) T.nd rfl (Or.inl rfl)) rfl) (gs_cons (g_nm (pg_name (i := 4) T.nd rfl (Or.inl rfl)) rfl) gs_nil))))))
  (ss_cons (s_if (PW.pt (t_or (t_not (t_tst (w_of (x_own1 T (c_is_integer Y) (by decide) rfl (xa_cons (x_var (pv 2) rfl) xa_nil))) (by intro _; rfl))) (t_or (t_cmp T.nin n_notin b_notin (w_of (x_var (pv 2) rfl)) (w_of (x_tup (xa_cons x_int (xa_cons x_int (xa_cons x_int xa_nil))))) rfl) (t_or1 (t_not (t_tst (w_of (x_own1 T (c_is_below Y) (by decide) rfl (xa_cons (x_var (pv 3) rfl) (xa_cons (x_var (pv 2) rfl) xa_nil)))) (by intro _; rfl))))))) (ss_one (s_ret x_bl)) ss_nil)
  (ss_one (s_ret (x_and (x_isi1 (cs := CS) (t := .tup) rfl (kit_of_b (Y.more 0)) rfl (Y.free 4) (w_of (x_var (pv 4) rfl)) (pe_bltn rfl (Y.free 6) hv_tuple rfl)) (x_and (x_chain y_le y_le n_le n_le (w_of x_int) (w_of (x_b1 v_len n_len rfl (Y.free 2) hv_len (w_of (x_var (pv 4) rfl)))) (w_of x_int)) (x_one (x_own1 T (c_are_values Y) (by decide) rfl (xa_cons (x_var (pv 4) rfl) (xa_cons (x_var (pv 1) rfl) xa_nil))))))))))))
theorem S_is_deed : FnScope N_is_deed ["value", "many"] sc_is_deed := ⟨rfl, rfl, rfl, by decide +kernel, rfl, by decide +kernel, by decide +kernel⟩
theorem c_is_deed (Y : Fs P w K mg) : CallOk P w K mg base 5 "is_deed" d_is_deed ["value", "many"] 2 m_is_deed :=
  def_ok (d := d_is_deed) (N := N_is_deed) (ps := ["value", "many"]) (p := 2) (m := b_is_deed) (k := 4) (ow := ow_is_deed) (Y.def_ 27) (Y.glo 46) S_is_deed rfl rfl (by decide) (fun _ _ _ _ _ _ us hl => match us, hl with | [_, _], _ => rfl) (fun cdv A outer s H E T => (ss_cons (s_if (PW.pt (t_or (t_not (t_tst (w_of (x_isi1 (cs := CS) (t := .tup) rfl (kit_of_b (Y.more 0)) rfl (Y.free 4) (w_of (x_var (pv 0) rfl)) (pe_bltn rfl (Y.free 6) hv_tuple rfl))) (by intro _; rfl))) (t_or (t_not (t_tst (w_of (x_var (pv 0) rfl)) (by intro _; rfl))) (t_or1 (t_not (t_tst (w_of (x_isi1 (cs := CS) (t := .str) rfl (kit_of_b (Y.more 0)) rfl (Y.free 4) (w_of (x_idx T.ix (w_of (x_var (pv 0) rfl)) (w_of x_int))) (pe_bltn rfl (Y.free 3) hv_str rfl))) (by intro _; rfl))))))) (ss_one (s_ret x_bl)) ss_nil)
  (ss_cons (s_if (t_cmp T.eq n_eq b_eq (w_of (x_idx T.ix (w_of (x_var (pv 0) rfl)) (w_of x_int))) (w_of (x_str (s := "count"))) rfl) (ss_one (s_ret (x_own1 T (c_is_count_deed Y) (by decide) rfl (xa_cons (x_var (pv 0) rfl) (xa_cons (x_var (pv 1) rfl) xa_nil))))) ss_nil)
  (ss_cons (s_if (PW.pt (t_or (t_nothas (Y.tab 0 10 18) rfl (x_idx T.ix (w_of (x_var (pv 0) rfl)) (w_of x_int))) (t_or1 (t_cmp T.ne n_ne b_ne (w_of (x_b1 v_len n_len rfl (Y.free 2) hv_len (w_of (x_var (pv 0) rfl)))) (w_of (x_bin y_add n_add (w_of (x_look (Y.tab 0 10 18) rfl (x_idx T.ix (w_of (x_var (pv 0) rfl)) (w_of x_int)))) (w_of x_int))) rfl)))) (ss_one (s_ret x_bl)) ss_nil)
  (ss_one (s_ret (x_own1 T (c_are_values Y) (by decide) rfl (xa_cons (x_slc (w_of (x_var (pv 0) rfl)) (o_some x_int) o_none) (xa_cons (x_var (pv 1) rfl) xa_nil)))))))))
theorem S_Row_init : FnScope N_Row_init ["self", "inputs", "deeds", "out"] sc_Row_init := ⟨rfl, rfl, rfl, by decide +kernel, rfl, by decide +kernel, by decide +kernel⟩
theorem c_Row (Y : Fs P w K mg) : MakeOk P w K mg base 6 "Row" 4 m_Row :=
  cls_ok (name := "__init__") (qual := "Row.__init__") (params := defArgs st_Row_init) (body := defBody st_Row_init) (scope := sc_Row_init) (f := He.ma K (ca K "Row") "__init__") (N := N_Row_init) (p := 4) (m := b_Row_init) (k := 5) (ow := ow_Row_init) (Y.def_ 28) (Y.glo 5) (Y.mkr 47 (x := "Row")) S_Row_init rfl rfl rfl (by decide) (by decide) (fun _ _ _ _ _ _ us hl => match us, hl with | [_, _, _, _], _ => rfl) (fun cdv A outer s H E T => (ss_cons (s_if (t_not (t_tst (w_of (x_own1 T (c_is_inputs Y) (by decide) rfl (xa_cons (x_var (pv 1) rfl) xa_nil))) (by intro _; rfl))) (ss_one (s_raise T (er_InvalidRow Y) (by decide) rfl (xa_cons (x_str (s := "inputs")) (xa_cons x_int xa_nil)))) ss_nil)
  (ss_cons (s_set (ps_set (i := 4) T.nd rfl (Or.inl rfl) (x_own1 T (c_as_tuple Y) (by decide) rfl (xa_cons (x_var (pv 2) rfl) xa_nil))) rfl)
  (ss_cons (s_if (t_isN (w_of (x_var (pv 4) rfl))) (ss_one (s_raise T (er_InvalidRow Y) (by decide) rfl (xa_cons (x_str (s := "deeds")) (xa_cons x_int xa_nil)))) ss_nil)
  (ss_cons (s_for T.po T.calm (i_enum rfl (Y.free 12) (x_var (pv 4) rfl)) (g_tup T.calm (gs_cons (g_nm (pg_name (i := 5) T.nd rfl (Or.inl rfl)) rfl) (gs_cons (g_nm (pg_name (i := 6) T.nd rfl (Or.inl rfl)) rfl) gs_nil))) (ss_one (s_if (t_not (t_tst (w_of (x_own1 T (c_is_deed Y) (by decide) rfl (xa_cons (x_var (pv 6) rfl) (xa_cons (x_bin y_add n_add (w_of (x_var (pv 1) rfl)) (w_of (x_var (pv 5) rfl))) xa_nil)))) (by intro _; rfl))) (ss_one (s_raise T (er_InvalidRow Y) (by decide) rfl (xa_cons (x_str (s := "deeds")) (xa_cons (x_var (pv 5) rfl) xa_nil)))) ss_nil)))
  (ss_cons (s_if (t_not (t_tst (w_of (x_own1 T (c_is_below Y) (by decide) rfl (xa_cons (x_var (pv 3) rfl) (xa_cons (x_bin y_add n_add (w_of (x_var (pv 1) rfl)) (w_of (x_b1 v_len n_len rfl (Y.free 2) hv_len (w_of (x_var (pv 4) rfl))))) xa_nil)))) (by intro _; rfl))) (ss_one (s_raise T (er_InvalidRow Y) (by decide) rfl (xa_cons (x_str (s := "out")) (xa_cons x_int xa_nil)))) ss_nil)
  (ss_cons (s_setF (att_ok (Y.more 9)) (ps_fld (pv 0) (x_var (pv 1) rfl) rfl) rfl)
  (ss_cons (s_setF (att_ok (Y.more 3)) (ps_fld (pv 0) (x_var (pv 4) rfl) rfl) rfl)
  (ss_one (s_setF (att_ok (Y.more 2)) (ps_fld (pv 0) (x_var (pv 3) rfl) rfl) rfl))))))))))
theorem S_told_deed : FnScope N_told_deed ["words"] sc_told_deed := ⟨rfl, rfl, rfl, by decide +kernel, rfl, by decide +kernel, by decide +kernel⟩
theorem c_told_deed (Y : Fs P w K mg) : CallOk P w K mg base 1 "told_deed" d_told_deed ["words"] 1 m_told_deed :=
  def_ok (d := d_told_deed) (N := N_told_deed) (ps := ["words"]) (p := 1) (m := b_told_deed) (k := 0) (ow := ow_told_deed) (Y.def_ 29) (Y.glo 48) S_told_deed rfl rfl (by decide) (fun _ _ _ _ _ _ us hl => match us, hl with | [_], _ => rfl) (fun cdv A outer s H E T => (ss_cons (s_set (s_f (s_lc0 (i := 1) (own := [("word", 2)]) T rfl rfl rfl (i_gr (i_seq (x_slc (w_of (x_var (pv 0) rfl)) (o_some x_int) o_none))) (blkOk_by (N := N_told_deed) (sc := sc_told_deed) (own := [("word", 2)]) (by decide +kernel)) (fun _ _ _ _ _ T1 => (g_nm (pg_name (i := 2) T1.nd rfl (Or.inl rfl)) rfl)) (fun _ _ _ _ _ T1 => ts_nil) (fun _ _ _ _ _ T1 => (x_t1 v_intx n_intx rfl (Y.free 0) hv_int (w_of (x_var (pv 2) rfl)))) (by decide))) rfl)
  (ss_cons (s_if (t_cmp T.eq n_eq b_eq (w_of (x_idx T.ix (w_of (x_var (pv 0) rfl)) (w_of x_int))) (w_of (x_str (s := "count"))) rfl) (ss_one (s_ret (x_tup (xa_cons (x_str (s := "count")) (xa_cons (x_idx T.ix (w_of (x_var (pv 1) rfl)) (w_of x_int)) (xa_cons (x_idx T.ix (w_of (x_var (pv 1) rfl)) (w_of x_int)) (xa_cons (x_t1 v_tuple n_tuple rfl (Y.free 6) hv_tuple (w_of (x_slc (w_of (x_var (pv 1) rfl)) (o_some x_int) o_none))) xa_nil))))))) ss_nil)
  (ss_one (s_ret (x_tup (xa_cons (x_idx T.ix (w_of (x_var (pv 0) rfl)) (w_of x_int)) (xa_star (x_var (pv 1) rfl) xa_nil))))))))
theorem S_number_below : FnScope N_number_below ["word", "limit"] sc_number_below := ⟨rfl, rfl, rfl, by decide +kernel, rfl, by decide +kernel, by decide +kernel⟩
theorem c_number_below (Y : Fs P w K mg) : CallOk P w K mg base 2 "number_below" d_number_below ["word", "limit"] 2 m_number_below :=
  def_ok (d := d_number_below) (N := N_number_below) (ps := ["word", "limit"]) (p := 2) (m := b_number_below) (k := 1) (ow := ow_number_below) (Y.def_ 30) (Y.glo 49) S_number_below rfl rfl (by decide) (fun _ _ _ _ _ _ us hl => match us, hl with | [_, _], _ => rfl) (fun cdv A outer s H E T => (ss_cons (s_set (ps_set (i := 2) T.nd rfl (Or.inl rfl) (x_own1 T (c_plain_number Y) (by decide) rfl (xa_cons (x_var (pv 0) rfl) (xa_cons (x_gint rfl (Y.int 16)) xa_nil)))) rfl)
  (ss_one (s_ret (x_and (x_notN (w_of (x_var (pv 2) rfl))) (x_one (x_cmp y_lt n_lt (w_of (x_var (pv 2) rfl)) (w_of (x_var (pv 1) rfl)) rfl)))))))
theorem S_wrong_count : FnScope N_wrong_count ["words", "many"] sc_wrong_count := ⟨rfl, rfl, rfl, by decide +kernel, rfl, by decide +kernel, by decide +kernel⟩
theorem c_wrong_count (Y : Fs P w K mg) : CallOk P w K mg base 3 "wrong_count" d_wrong_count ["words", "many"] 2 m_wrong_count :=
  def_ok (d := d_wrong_count) (N := N_wrong_count) (ps := ["words", "many"]) (p := 2) (m := b_wrong_count) (k := 2) (ow := ow_wrong_count) (Y.def_ 31) (Y.glo 50) S_wrong_count rfl rfl (by decide) (fun _ _ _ _ _ _ us hl => match us, hl with | [_, _], _ => rfl) (fun cdv A outer s H E T => (ss_cons (s_for T.po T.calm (i_rng2 rfl (Y.free 1) x_int (x_b1 v_len n_len rfl (Y.free 2) hv_len (w_of (x_var (pv 0) rfl)))) (g_nm (pg_name (i := 2) T.nd rfl (Or.inl rfl)) rfl) (ss_cons (s_if (PW.pt (t_and (t_cmp T.eq n_eq b_eq (w_of (x_var (pv 2) rfl)) (w_of x_int) rfl) (t_and1 (t_cmp T.nin n_notin b_notin (w_of (x_idx T.ix (w_of (x_var (pv 0) rfl)) (w_of (x_var (pv 2) rfl)))) (w_of (x_tup (xa_cons (x_str (s := "2")) (xa_cons (x_str (s := "3")) (xa_cons (x_str (s := "5")) xa_nil))))) rfl)))) (ss_one (s_ret (x_var (pv 2) rfl))) ss_nil)
  (ss_cons (s_if (PW.pt (t_and (t_cmp T.eq n_eq b_eq (w_of (x_var (pv 2) rfl)) (w_of x_int) rfl) (t_and1 (t_not (t_tst (w_of (x_own1 T (c_number_below Y) (by decide) rfl (xa_cons (x_idx T.ix (w_of (x_var (pv 0) rfl)) (w_of (x_var (pv 2) rfl))) (xa_cons (x_t1 v_intx n_intx rfl (Y.free 0) hv_int (w_of (x_idx T.ix (w_of (x_var (pv 0) rfl)) (w_of x_int)))) xa_nil)))) (by intro _; rfl)))))) (ss_one (s_ret (x_var (pv 2) rfl))) ss_nil)
  (ss_one (s_if (PW.pt (t_or (t_cmp y_gt n_gt b_gt (w_of (x_var (pv 2) rfl)) (w_of x_int) rfl) (t_or1 (PW.pt (t_and (t_cmp y_gt n_gt b_gt (w_of (x_var (pv 2) rfl)) (w_of x_int) rfl) (t_and1 (t_not (t_tst (w_of (x_own1 T (c_number_below Y) (by decide) rfl (xa_cons (x_idx T.ix (w_of (x_var (pv 0) rfl)) (w_of (x_var (pv 2) rfl))) (xa_cons (x_var (pv 1) rfl) xa_nil)))) (by intro _; rfl))))))))) (ss_one (s_ret (x_var (pv 2) rfl))) ss_nil)))))
  (ss_one (s_ret (x_ifExp (t_cmp y_lt n_lt b_lt (w_of (x_b1 v_len n_len rfl (Y.free 2) hv_len (w_of (x_var (pv 0) rfl)))) (w_of x_int) rfl) (x_b1 v_len n_len rfl (Y.free 2) hv_len (w_of (x_var (pv 0) rfl))) x_non)))))
theorem S_wrong_word : FnScope N_wrong_word ["words", "many"] sc_wrong_word := ⟨rfl, rfl, rfl, by decide +kernel, rfl, by decide +kernel, by decide +kernel⟩
theorem c_wrong_word (Y : Fs P w K mg) : CallOk P w K mg base 4 "wrong_word" d_wrong_word ["words", "many"] 2 m_wrong_word :=
  def_ok (d := d_wrong_word) (N := N_wrong_word) (ps := ["words", "many"]) (p := 2) (m := b_wrong_word) (k := 3) (ow := ow_wrong_word) (Y.def_ 32) (Y.glo 51) S_wrong_word rfl rfl (by decide) (fun _ _ _ _ _ _ us hl => match us, hl with | [_, _], _ => rfl) (fun cdv A outer s H E T => (ss_cons (s_if (t_not (t_tst (w_of (x_var (pv 0) rfl)) (by intro _; rfl))) (ss_one (s_ret x_int)) ss_nil)
  (ss_cons (s_if (t_cmp T.eq n_eq b_eq (w_of (x_idx T.ix (w_of (x_var (pv 0) rfl)) (w_of x_int))) (w_of (x_str (s := "count"))) rfl) (ss_one (s_ret (x_own1 T (c_wrong_count Y) (by decide) rfl (xa_cons (x_var (pv 0) rfl) (xa_cons (x_var (pv 1) rfl) xa_nil))))) ss_nil)
  (ss_cons (s_if (t_nothas (Y.tab 0 10 18) rfl (x_idx T.ix (w_of (x_var (pv 0) rfl)) (w_of x_int))) (ss_one (s_ret x_int)) ss_nil)
  (ss_cons (s_set (ps_set (i := 2) T.nd rfl (Or.inl rfl) (x_look (Y.tab 0 10 18) rfl (x_idx T.ix (w_of (x_var (pv 0) rfl)) (w_of x_int)))) rfl)
  (ss_cons (s_for T.po T.calm (i_rng2 rfl (Y.free 1) x_int (x_b1 v_len n_len rfl (Y.free 2) hv_len (w_of (x_var (pv 0) rfl)))) (g_nm (pg_name (i := 3) T.nd rfl (Or.inl rfl)) rfl) (ss_one (s_if (PW.pt (t_or (t_cmp y_gt n_gt b_gt (w_of (x_var (pv 3) rfl)) (w_of (x_var (pv 2) rfl)) rfl) (t_or1 (t_not (t_tst (w_of (x_own1 T (c_number_below Y) (by decide) rfl (xa_cons (x_idx T.ix (w_of (x_var (pv 0) rfl)) (w_of (x_var (pv 3) rfl))) (xa_cons (x_var (pv 1) rfl) xa_nil)))) (by intro _; rfl)))))) (ss_one (s_ret (x_var (pv 3) rfl))) ss_nil)))
  (ss_one (s_ret (x_ifExp (t_cmp y_le n_le b_le (w_of (x_b1 v_len n_len rfl (Y.free 2) hv_len (w_of (x_var (pv 0) rfl)))) (w_of (x_var (pv 2) rfl)) rfl) (x_b1 v_len n_len rfl (Y.free 2) hv_len (w_of (x_var (pv 0) rfl))) x_non)))))))))
theorem S_read_row : FnScope N_read_row ["text"] sc_read_row := ⟨rfl, rfl, rfl, by decide +kernel, rfl, by decide +kernel, by decide +kernel⟩
theorem c_read_row (Y : Fs P w K mg) : CallOk P w K mg base 8 "read_row" d_read_row ["text"] 1 m_read_row :=
  def_ok (d := d_read_row) (N := N_read_row) (ps := ["text"]) (p := 1) (m := b_read_row) (k := 7) (ow := ow_read_row) (oN := owS []) (oB := owS []) (Y.def_ 33) (Y.glo 52) S_read_row rfl rfl (by decide) (fun _ _ _ _ _ _ us hl => match us, hl with | [_], _ => rfl) (fun cdv A outer s H E T => (c_cons (o1 := owS []) (s_up (s_set (ps_set (i := 1) T.nd rfl (Or.inl rfl) (e_of (f_split (w_of (x_var (pv 0) rfl)) (w_of (x_str (s := "\n")))))) rfl) (owS_le (by decide)) (by decide))
  (c_cons (o1 := owS []) (s_up (s_set (ps_set (i := 2) T.nd rfl (Or.inl rfl) (x_own1 T (c_head_numbers Y) (by decide) rfl (xa_cons (x_idx T.ix (w_of (x_var (pv 1) rfl)) (w_of x_int)) (xa_cons (x_str (s := "row")) (xa_cons x_int xa_nil))))) rfl) (owS_le (by decide)) (by decide))
  (c_cons (o1 := owS []) (c_if (PW.pt (t_or (t_isN (w_of (x_var (pv 2) rfl))) (t_or1 (t_cmp y_ge n_ge b_ge (w_of (x_idx T.ix (w_of (x_var (pv 2) rfl)) (w_of x_int))) (w_of (x_bin y_add n_add (w_of (x_idx T.ix (w_of (x_var (pv 2) rfl)) (w_of x_int))) (w_of (x_idx T.ix (w_of (x_var (pv 2) rfl)) (w_of x_int))))) rfl)))) (c_one (s_up (s_raise T (er_InvalidText Y) (by decide) rfl (xa_cons (x_var (pv 0) rfl) (xa_cons x_int xa_nil))) (owS_le (by decide)) (by decide))) (c_cut (o1 := owS []) c_nil (owS_le (by decide)) (by decide)))
  (c_cons (o1 := owS [3]) (c_own (ps_set (i := 3) T.nd rfl (Or.inl rfl) (f_lst xa_nil)) rfl (owS_add (by decide)))
  (c_cons (o1 := owS [3]) (s_up (s_set (ps_set (i := 4) T.nd rfl (Or.inl rfl) (x_bin y_add n_add (w_of (x_b1 v_len n_len rfl (Y.free 2) hv_len (w_of (x_idx T.ix (w_of (x_var (pv 1) rfl)) (w_of x_int))))) (w_of x_int))) rfl) (owS_le (by decide)) (by decide))
  (c_cons (o1 := owS [3]) (s_up (s_for T.po T.calm (i_enum rfl (Y.free 12) (x_slc (w_of (x_var (pv 1) rfl)) (o_some x_int) o_none)) (g_tup T.calm (gs_cons (g_nm (pg_name (i := 5) T.nd rfl (Or.inl rfl)) rfl) (gs_cons (g_nm (pg_name (i := 6) T.nd rfl (Or.inl rfl)) rfl) gs_nil))) (c_cons (o1 := owS [3]) (s_up (s_set (ps_set (i := 7) T.nd rfl (Or.inl rfl) (e_of (f_split (w_of (x_var (pv 6) rfl)) (w_of (x_str (s := " ")))))) rfl) (owS_le (by decide)) (by decide))
  (c_cons (o1 := owS [3]) (c_if (PW.pt (t_or (t_cmp y_ge n_ge b_ge (w_of (x_var (pv 5) rfl)) (w_of (x_idx T.ix (w_of (x_var (pv 2) rfl)) (w_of x_int))) rfl) (t_or1 (t_notN (w_of (x_own1 T (c_wrong_word Y) (by decide) rfl (xa_cons (x_var (pv 7) rfl) (xa_cons (x_bin y_add n_add (w_of (x_idx T.ix (w_of (x_var (pv 2) rfl)) (w_of x_int))) (w_of (x_var (pv 5) rfl))) xa_nil)))))))) (c_one (s_up (s_raise T (er_InvalidText Y) (by decide) rfl (xa_cons (x_var (pv 0) rfl) (xa_cons (x_var (pv 4) rfl) xa_nil))) (owS_le (by decide)) (by decide))) (c_cut (o1 := owS [3]) c_nil (owS_le (by decide)) (by decide)))
  (c_cons (o1 := owS [3]) (s_up (s_app1 (i := 3) (pv 3) (x_own1 T (c_told_deed Y) (by decide) rfl (xa_cons (x_var (pv 7) rfl) xa_nil)) rfl) (owS_le (by decide)) (by decide))
  (c_one (s_up (s_aug (ps_aug (i := 4) T.nd rfl (Or.inl rfl) (w_of (x_bin y_add n_add (w_of (x_b1 v_len n_len rfl (Y.free 2) hv_len (w_of (x_var (pv 6) rfl)))) (w_of x_int))) ip_add) rfl h_iadd n_iadd rfl) (owS_le (by decide)) (by decide))))))) (owS_le (by decide)) (by decide))
  (c_cut (o1 := owS []) (c_cons (o1 := owS []) (c_if (t_cmp y_lt n_lt b_lt (w_of (x_b1 v_len n_len rfl (Y.free 2) hv_len (w_of (x_var (pv 3) rfl)))) (w_of (x_idx T.ix (w_of (x_var (pv 2) rfl)) (w_of x_int))) rfl) (c_one (s_up (s_raise T (er_InvalidText Y) (by decide) rfl (xa_cons (x_var (pv 0) rfl) (xa_cons (x_b1 v_len n_len rfl (Y.free 2) hv_len (w_of (x_var (pv 0) rfl))) xa_nil))) (owS_le (by decide)) (by decide))) (c_cut (o1 := owS []) c_nil (owS_le (by decide)) (by decide)))
  (c_one (s_up (s_ret (x_new (cls := "Row") T (c_Row Y) (by decide) rfl (xa_cons (x_idx T.ix (w_of (x_var (pv 2) rfl)) (w_of x_int)) (xa_cons (x_var (pv 3) rfl) (xa_cons (x_idx T.ix (w_of (x_var (pv 2) rfl)) (w_of x_int)) xa_nil))))) (owS_le (by decide)) (by decide)))) (owS_le (by decide)) (by decide)))))))))
theorem S__law_refused : FnScope N__law_refused ["name", "text", "at"] sc__law_refused := ⟨rfl, rfl, rfl, by decide +kernel, rfl, by decide +kernel, by decide +kernel⟩
theorem c_law_refused (Y : Fs P w K mg) : CallOk P w K mg base 9 "_law_refused" d__law_refused ["name", "text", "at"] 3 m_law_refused :=
  def_ok (d := d__law_refused) (N := N__law_refused) (ps := ["name", "text", "at"]) (p := 3) (m := b__law_refused) (k := 8) (ow := ow__law_refused) (Y.def_ 34) (Y.glo 53) S__law_refused rfl rfl (by decide) (fun _ _ _ _ _ _ us hl => match us, hl with | [_, _, _], _ => rfl) (fun cdv A outer s H E T => (ss_cons (s_tryX (es := ES) (all := EALL) (fl := EFL) (x := "InvalidText") (i := 3) T (ers_ok (Y.more 6)) (ex_ok (Y.more 7)) (Y.glo 11) rfl rfl rfl rfl rfl
  (fun _ _ _ T1 => (bs_one (b_if (t_cmp T1.eq n_eq b_eq (w_of (x_var (pv 0) rfl)) (w_of (x_str (s := "row"))) rfl) (bs_one (b_drop (ps_expr (x_own1 T1 (c_read_row Y) (by decide) rfl (xa_cons (x_var (pv 1) rfl) xa_nil))))) (bs_one (b_drop (ps_expr (x_own1 T1 (c_read_machine Y) (by decide) rfl (xa_cons (x_var (pv 1) rfl) xa_nil))))))))
  (fun _ _ c_e _ fs_e _ hc_e hz_e hv_e T2 => (ss_cons (s_if (PW.pt (t_or (t_not (t_tst (w_of (x_xis1 (t := "CarryError") (es := ES) (all := EALL) (fl := EFL) (ers_ok (Y.more 6)) hc_e hz_e hv_e rfl rfl (Y.free 4) (pv 3) (xc_glob (t := "CarryError") (by decide) rfl (Y.glo 9)))) (by intro _; rfl))) (t_or (t_not (t_tst (w_of (x_isi1 (cs := CS) (t := .str) rfl (kit_of_b (Y.more 0)) rfl (Y.free 4) (w_of (x_xfld (es := ES) (all := EALL) (fl := EFL) (ers_ok (Y.more 6)) hc_e hz_e hv_e (pv 3))) (pe_bltn rfl (Y.free 3) hv_str rfl))) (by intro _; rfl))) (t_or1 (t_cmp T2.ne n_ne b_ne (w_of (x_xfld (es := ES) (all := EALL) (fl := EFL) (ers_ok (Y.more 6)) hc_e hz_e hv_e (pv 3))) (w_of (x_var (pv 1) rfl)) rfl))))) (ss_one (s_ret x_bl)) ss_nil)
  (ss_one (s_ret (x_and (x_isi1 (cs := CS) (t := .int) rfl (kit_of_b (Y.more 0)) rfl (Y.free 4) (w_of (x_xfld (es := ES) (all := EALL) (fl := EFL) (ers_ok (Y.more 6)) hc_e hz_e hv_e (pv 3))) (pe_bltn rfl (Y.free 0) hv_int rfl)) (x_and (x_not (x_isi1 (cs := CS) (t := .bl) rfl (kit_of_b (Y.more 0)) rfl (Y.free 4) (w_of (x_xfld (es := ES) (all := EALL) (fl := EFL) (ers_ok (Y.more 6)) hc_e hz_e hv_e (pv 3))) (pe_bltn rfl (Y.free 10) hv_bool rfl))) (x_one (x_cmp T2.eq n_eq (w_of (x_xfld (es := ES) (all := EALL) (fl := EFL) (ers_ok (Y.more 6)) hc_e hz_e hv_e (pv 3))) (w_of (x_var (pv 2) rfl)) rfl)))))))))
  (ss_one (s_ret x_bl))))
theorem S__law_same : FnScope N__law_same ["one", "other"] sc__law_same := ⟨rfl, rfl, rfl, by decide +kernel, rfl, by decide +kernel, by decide +kernel⟩
theorem c_law_same (Y : Fs P w K mg) : ∀ k : Nat, CallOk P w K mg base (1 + k) "_law_same" d__law_same ["one", "other"] 2 (m_law_same k)
  | 0 => def_ok (d := d__law_same) (N := N__law_same) (ps := ["one", "other"]) (p := 2) (m := dead) (k := 0) (ow := ow__law_same) (Y.def_ 35) (Y.glo 54) S__law_same rfl rfl (by decide) (fun _ _ _ _ _ _ us hl => match us, hl with | [_, _], _ => rfl) (fun cdv A outer s H E T => ss_dead)
  | k + 1 => def_ok (d := d__law_same) (N := N__law_same) (ps := ["one", "other"]) (p := 2) (k := 1 + k) (ow := ow__law_same) (Y.def_ 35) (Y.glo 54) S__law_same rfl rfl (by decide) (fun _ _ _ _ _ _ us hl => match us, hl with | [_, _], _ => rfl) (fun cdv A outer s H E T => (ss_cons (s_if (t_tst (w_of (x_isi1 (cs := CS) (t := .tup) rfl (kit_of_b (Y.more 0)) rfl (Y.free 4) (w_of (x_var (pv 1) rfl)) (pe_bltn rfl (Y.free 6) hv_tuple rfl))) (by intro _; rfl)) (ss_cons (s_if (PW.pt (t_or (t_not (t_tst (w_of (x_isi1 (cs := CS) (t := .tup) rfl (kit_of_b (Y.more 0)) rfl (Y.free 4) (w_of (x_var (pv 0) rfl)) (pe_bltn rfl (Y.free 6) hv_tuple rfl))) (by intro _; rfl))) (t_or1 (t_cmp T.ne n_ne b_ne (w_of (x_b1 v_len n_len rfl (Y.free 2) hv_len (w_of (x_var (pv 0) rfl)))) (w_of (x_b1 v_len n_len rfl (Y.free 2) hv_len (w_of (x_var (pv 1) rfl)))) rfl)))) (ss_one (s_ret x_bl)) ss_nil)
  (ss_cons (s_for T.po T.calm (i_rng1 rfl (Y.free 1) (x_b1 v_len n_len rfl (Y.free 2) hv_len (w_of (x_var (pv 1) rfl)))) (g_nm (pg_name (i := 2) T.nd rfl (Or.inl rfl)) rfl) (ss_one (s_if (t_not (t_tst (w_of (x_own1 T (c_law_same Y k) (Nat.le_refl _) rfl (xa_cons (x_idx T.ix (w_of (x_var (pv 0) rfl)) (w_of (x_var (pv 2) rfl))) (xa_cons (x_idx T.ix (w_of (x_var (pv 1) rfl)) (w_of (x_var (pv 2) rfl))) xa_nil)))) (by intro _; rfl))) (ss_one (s_ret x_bl)) ss_nil)))
  (ss_one (s_ret x_bl)))) ss_nil)
  (ss_cons (s_if (t_tst (w_of (x_isi1 (cs := CS) (t := .str) rfl (kit_of_b (Y.more 0)) rfl (Y.free 4) (w_of (x_var (pv 1) rfl)) (pe_bltn rfl (Y.free 3) hv_str rfl))) (by intro _; rfl)) (ss_one (s_ret (x_and (x_isi1 (cs := CS) (t := .str) rfl (kit_of_b (Y.more 0)) rfl (Y.free 4) (w_of (x_var (pv 0) rfl)) (pe_bltn rfl (Y.free 3) hv_str rfl)) (x_one (x_cmp T.eq n_eq (w_of (x_var (pv 0) rfl)) (w_of (x_var (pv 1) rfl)) rfl))))) ss_nil)
  (ss_one (s_ret (x_and (x_isi1 (cs := CS) (t := .int) rfl (kit_of_b (Y.more 0)) rfl (Y.free 4) (w_of (x_var (pv 0) rfl)) (pe_bltn rfl (Y.free 0) hv_int rfl)) (x_and (x_not (x_isi1 (cs := CS) (t := .bl) rfl (kit_of_b (Y.more 0)) rfl (Y.free 4) (w_of (x_var (pv 0) rfl)) (pe_bltn rfl (Y.free 10) hv_bool rfl))) (x_one (x_cmp T.eq n_eq (w_of (x_var (pv 0) rfl)) (w_of (x_var (pv 1) rfl)) rfl)))))))))
theorem S__law_told : FnScope N__law_told ["name", "text"] sc__law_told := ⟨rfl, rfl, rfl, by decide +kernel, rfl, by decide +kernel, by decide +kernel⟩
theorem c_law_told (Y : Fs P w K mg) : CallOk P w K mg base 14 "_law_told" d__law_told ["name", "text"] 2 m_law_told :=
  def_ok (d := d__law_told) (N := N__law_told) (ps := ["name", "text"]) (p := 2) (m := b__law_told) (k := 13) (ow := ow__law_told) (Y.def_ 36) (Y.glo 55) S__law_told rfl rfl (by decide) (fun _ _ _ _ _ _ us hl => match us, hl with | [_, _], _ => rfl) (fun cdv A outer s H E T => (ss_cons (s_set (ps_set (i := 2) T.nd rfl (Or.inl rfl) (x_own1 T (c_law_read Y) (by decide) rfl (xa_cons (x_var (pv 1) rfl) (xa_cons (x_var (pv 0) rfl) xa_nil)))) rfl)
  (ss_cons (s_if (t_cmp T.eq n_eq b_eq (w_of (x_idx T.ix (w_of (x_var (pv 2) rfl)) (w_of x_int))) (w_of (x_str (s := "wrong"))) rfl) (ss_one (s_ret (x_own1 T (c_law_refused Y) (by decide) rfl (xa_cons (x_var (pv 0) rfl) (xa_cons (x_var (pv 1) rfl) (xa_cons (x_idx T.ix (w_of (x_var (pv 2) rfl)) (w_of x_int)) xa_nil)))))) ss_nil)
  (ss_cons (s_if (t_cmp T.eq n_eq b_eq (w_of (x_var (pv 0) rfl)) (w_of (x_str (s := "row"))) rfl) (ss_cons (s_set (ps_set (i := 3) T.nd rfl (Or.inl rfl) (x_own1 T (c_read_row Y) (by decide) rfl (xa_cons (x_var (pv 1) rfl) xa_nil))) rfl)
  (ss_cons (s_if (PW.pt (t_or (t_not (t_tst (w_of (x_isi1 (cs := CS) (t := (.cls "Row")) rfl (kit_of_b (Y.more 0)) rfl (Y.free 4) (w_of (x_var (pv 3) rfl)) (pe_glob rfl (Y.glo 5) rfl))) (by intro _; rfl))) (t_or (t_not (t_tst (w_of (x_own1 T (c_law_same Y 12) (by decide) rfl (xa_cons (x_attr (att_ok (Y.more 1)) (w_of (x_var (pv 3) rfl))) (xa_cons (x_idx T.ix (w_of (x_idx T.ix (w_of (x_var (pv 2) rfl)) (w_of x_int))) (w_of x_int)) xa_nil)))) (by intro _; rfl))) (t_or1 (t_not (t_tst (w_of (x_own1 T (c_law_same Y 12) (by decide) rfl (xa_cons (x_attr (att_ok (Y.more 2)) (w_of (x_var (pv 3) rfl))) (xa_cons (x_idx T.ix (w_of (x_idx T.ix (w_of (x_var (pv 2) rfl)) (w_of x_int))) (w_of x_int)) xa_nil)))) (by intro _; rfl))))))) (ss_one (s_ret x_bl)) ss_nil)
  (ss_one (s_ret (x_own1 T (c_law_same Y 12) (by decide) rfl (xa_cons (x_attr (att_ok (Y.more 3)) (w_of (x_var (pv 3) rfl))) (xa_cons (x_t1 v_tuple n_tuple rfl (Y.free 6) hv_tuple (w_of (x_idx T.ix (w_of (x_var (pv 2) rfl)) (w_of x_int)))) xa_nil))))))) ss_nil)
  (ss_cons (s_set (ps_set (i := 4) T.nd rfl (Or.inl rfl) (x_own1 T (c_read_machine Y) (by decide) rfl (xa_cons (x_var (pv 1) rfl) xa_nil))) rfl)
  (ss_cons (s_if (PW.pt (t_or (t_not (t_tst (w_of (x_isi1 (cs := CS) (t := (.cls "Machine")) rfl (kit_of_b (Y.more 0)) rfl (Y.free 4) (w_of (x_var (pv 4) rfl)) (pe_glob rfl (Y.glo 7) rfl))) (by intro _; rfl))) (t_or1 (t_not (t_tst (w_of (x_own1 T (c_law_same Y 12) (by decide) rfl (xa_cons (x_attr (att_ok (Y.more 1)) (w_of (x_var (pv 4) rfl))) (xa_cons (x_idx T.ix (w_of (x_idx T.ix (w_of (x_var (pv 2) rfl)) (w_of x_int))) (w_of x_int)) xa_nil)))) (by intro _; rfl)))))) (ss_one (s_ret x_bl)) ss_nil)
  (ss_cons (s_if (t_not (t_tst (w_of (x_own1 T (c_law_same Y 12) (by decide) rfl (xa_cons (x_attr (att_ok (Y.more 4)) (w_of (x_var (pv 4) rfl))) (xa_cons (x_t1 v_tuple n_tuple rfl (Y.free 6) hv_tuple (w_of (e_of (f_lc (own := [("pair", 5)]) T (i_gr (i_seq (x_idx T.ix (w_of (x_var (pv 2) rfl)) (w_of x_int)))) (blkOk_by (N := N__law_told) (sc := sc__law_told) (own := [("pair", 5)]) (by decide +kernel)) (fun _ _ _ _ _ T1 => (g_nm (pg_name (i := 5) T1.nd rfl (Or.inl rfl)) rfl)) (fun _ _ _ _ _ T1 => ts_nil) (fun _ _ _ _ _ T1 => (x_idx T1.ix (w_of (x_var (pv 5) rfl)) (w_of x_int))) (by decide))))) xa_nil)))) (by intro _; rfl))) (ss_one (s_ret x_bl)) ss_nil)
  (ss_one (s_ret (x_own1 T (c_law_same Y 12) (by decide) rfl (xa_cons (x_attr (att_ok (Y.more 5)) (w_of (x_var (pv 4) rfl))) (xa_cons (x_t1 v_tuple n_tuple rfl (Y.free 6) hv_tuple (w_of (e_of (f_lc (own := [("pair", 5)]) T (i_gr (i_seq (x_idx T.ix (w_of (x_var (pv 2) rfl)) (w_of x_int)))) (blkOk_by (N := N__law_told) (sc := sc__law_told) (own := [("pair", 5)]) (by decide +kernel)) (fun _ _ _ _ _ T2 => (g_nm (pg_name (i := 5) T2.nd rfl (Or.inl rfl)) rfl)) (fun _ _ _ _ _ T2 => ts_nil) (fun _ _ _ _ _ T2 => (x_idx T2.ix (w_of (x_var (pv 5) rfl)) (w_of x_int))) (by decide))))) xa_nil))))))))))))
theorem S__law_ask : FnScope N__law_ask ["pool"] sc__law_ask := ⟨rfl, rfl, rfl, by decide +kernel, rfl, by decide +kernel, by decide +kernel⟩
theorem c_law_ask (Y : Fs P w K mg) : CallOk P w K mg base 15 "_law_ask" d__law_ask ["pool"] 1 m_law_ask :=
  def_ok (d := d__law_ask) (N := N__law_ask) (ps := ["pool"]) (p := 1) (m := b__law_ask) (k := 14) (ow := ow__law_ask) (Y.def_ 37) (Y.glo 56) S__law_ask rfl rfl (by decide) (fun _ _ _ _ _ _ us hl => match us, hl with | [_], _ => rfl) (fun cdv A outer s H E T => (ss_cons (s_for T.po T.calm (i_rng1 rfl (Y.free 1) x_int) (g_nm (pg_name (i := 1) T.nd rfl (Or.inl rfl)) rfl) (ss_cons (s_set (ps_set (i := 2) T.nd rfl (Or.inl rfl) (x_join (w_of (x_str (s := "\n"))) (w_of (x_own1 T (c_law_lines Y) (by decide) rfl (xa_cons (x_var (pv 0) rfl) xa_nil))))) rfl)
  (ss_cons (s_for T.po T.calm (i_rng1 rfl (Y.free 1) (x_idx T.ix (w_of (x_tup (xa_cons x_int (xa_cons x_int (xa_cons x_int (xa_cons x_int (xa_cons x_int (xa_cons x_int xa_nil)))))))) (w_of (x_own1 T (c_law_pick Y) (by decide) rfl (xa_cons (x_var (pv 0) rfl) (xa_cons x_int xa_nil)))))) (g_nm (pg_name (i := 3) T.nd rfl (Or.inl rfl)) rfl) (ss_one (s_set (ps_set (i := 2) T.nd rfl (Or.inl rfl) (x_own1 T (c_law_changed Y) (by decide) rfl (xa_cons (x_var (pv 0) rfl) (xa_cons (x_var (pv 2) rfl) xa_nil)))) rfl)))
  (ss_one (s_for T.po T.calm (i_seq (x_tup (xa_cons (x_str (s := "row")) (xa_cons (x_str (s := "machine")) (xa_cons (x_str (s := "row")) (xa_cons (x_str (s := "machine")) xa_nil)))))) (g_nm (pg_name (i := 4) T.nd rfl (Or.inl rfl)) rfl) (ss_one (s_if (t_not (t_tst (w_of (x_own1 T (c_law_told Y) (by decide) rfl (xa_cons (x_var (pv 4) rfl) (xa_cons (x_var (pv 2) rfl) xa_nil)))) (by intro _; rfl))) (ss_one (s_ret x_bl)) ss_nil)))))))
  (ss_one (s_ret x_bl))))
theorem S_law : FnScope N_law ["script"] sc_law := ⟨rfl, rfl, rfl, by decide +kernel, rfl, by decide +kernel, by decide +kernel⟩
theorem law_is (Y : Fs P w K mg) : ∃ fd : FuncData, (∀ (s : Shared) (u : Value), BindsTo s fd ⟨[u], []⟩ [("script", u)]) ∧ ∀ base : Heap, FnOk P w K mg base (L2N.CX P w) 16 (He.ga K "law") fd ["script"] (spM K 1 m_law) :=
  law_ok (qual := "law") (params := defArgs st_law) (body := defBody st_law) (scope := sc_law) (f := He.ga K "law") (N := N_law) (m := b_law) (ow := ow_law) (Y.def_ 38) S_law rfl rfl (fun _ _ _ _ _ _ us hl => match us, hl with | [_], _ => rfl) (fun base cdv A outer s H E T => (ss_cons (s_set (ps_set (i := 1) T.nd rfl (Or.inl rfl) (x_pool (f_lst (xa_cons (e_of (f_lc (own := [("cell", 2)]) T (i_gr (i_seq (x_slc (w_of (x_var (pv 0) rfl)) o_none (o_some x_int)))) (blkOk_by (N := N_law) (sc := sc_law) (own := [("cell", 2)]) (by decide +kernel)) (fun _ _ _ _ _ T1 => (g_nm (pg_name (i := 2) T1.nd rfl (Or.inl rfl)) rfl)) (fun _ _ _ _ _ T1 => ts_nil) (fun _ _ _ _ _ T1 => (x_t1 v_int n_int rfl (Y.free 0) hv_int (w_of (x_var (pv 2) rfl)))) (by decide))) (xa_cons x_int (xa_cons x_int (xa_cons x_int xa_nil))))))) rfl)
  (ss_one (s_thru T fun T2 => (ss_one (s_ret (x_own1 T2 (c_law_ask Y) (by decide) rfl (xa_cons (x_var (pv 1) rfl) xa_nil))))))))
end
theorem ob_eq (s : PySem.W.SharedT) : ob s = hkY.obs s.abs := obsYG_eq (HandSHeadRun.getT_eq s)
end Py
/-! More about mirrors: comprehensions over made lists, enumerate, slices, draws. -/
namespace Py.U
open PySem
def Drawn : List Int → List Int → Prop
  | [], [] => True
  | d :: ds, s :: ss => (0 ≤ d ∧ d < s) ∧ Drawn ds ss
  | _, _ => False
theorem Drawn.snoc : ∀ {ds ss : List Int} {d s : Int}, Drawn ds ss → 0 ≤ d → d < s → Drawn (ds ++ [d]) (ss ++ [s])
  | [], [], _, _, _, h1, h2 => ⟨⟨h1, h2⟩, trivial⟩
  | d :: ds, s :: ss, _, _, h, h1, h2 => ⟨h.1, Drawn.snoc h.2 h1 h2⟩
  | [], _ :: _, _, _, h, _, _ => h.elim
  | _ :: _, [], _, _, h, _, _ => h.elim
theorem Drawn.length : ∀ {ds ss : List Int}, Drawn ds ss → ds.length = ss.length
  | [], [], _ => rfl
  | d :: ds, s :: ss, h => congrArg (· + 1) (Drawn.length h.2)
  | [], _ :: _, h => h.elim
  | _ :: _, [], h => h.elim
theorem le_sz {n : Nat} (h : n ≤ 1000) : n ≤ SZ := Nat.le_trans h (by decide)
theorem compL_mapI {α : Type} {f : D → Res (Option D)} {k h : α → D} : ∀ {ys : List α}, (∀ y ∈ ys, f (k y) = .ok (some (h y))) → compL f (ys.map k) = .ok (ys.map h)
  | [], _ => rfl
  | y :: ys, q => by
    rw [List.map_cons, List.map_cons]
    unfold compL
    rw [q y List.mem_cons_self, compL_mapI fun z hz => q z (List.mem_cons_of_mem _ hz)] <;> rfl
theorem lc_mapI {α : Type} {it : IM} {vs : List Nat} {g : GM} {elt : EM} {e : Env} {ys : List α} {k h : α → D} (hi : it e = .ok (ys.map k)) (hz : ys.length ≤ SZ) (hx : ∀ y ∈ ys, ∃ e1, g (k y) (wipe e vs) = some e1 ∧ elt e1 = .ok (h y)) : lcE it vs g yes elt e = .ok (.lst (ys.map h)) := by
  unfold lcE
  rw [hi]
  have q : compL (compF vs g yes elt e) (ys.map k) = .ok (ys.map h) := compL_mapI fun x hm => by
    obtain ⟨e1, h1, h2⟩ := hx x hm
    unfold compF
    rw [h1]
    simp [yes, h2]
  simp only [bind_ok, q, noexc_ok, List.length_map]
  exact chk_ok hz
theorem seq_next {a b : SM} {e e' : Env} (h : a e = .ok (.next e')) : seq a b e = b e' := by
  rw [seq_eq, h]
  rfl
theorem slc_eq (a : EM) (lo hi : Option EM) (e : Env) : slc a lo hi e = (a e >>= fun x => slc.bnd lo e >>= fun i => slc.bnd hi e >>= fun j => oslc x i j) := rfl
theorem bnd_none (e : Env) : slc.bnd none e = .ok none := rfl
theorem bnd_some (m : EM) (e : Env) : slc.bnd (some m) e = (m e >>= fun d => match d with | .int i => .ok (some i) | _ => .stuck) := rfl
end Py.U
/-! Numbers of first meetings; classes of states; a search by levels. No program in sight. -/
namespace Py.U
section
variable {α β : Type} [DecidableEq α] [DecidableEq β]
def addU (s : List α) (k : α) : List α := if k ∈ s then s else s ++ [k]
theorem mem_addU {s : List α} {k x : α} : x ∈ addU s k ↔ x ∈ s ∨ x = k := by
  unfold addU
  split
  · rename_i h
    constructor
    · exact .inl
    · rintro (q | rfl)
      · exact q
      · exact h
  · simp
theorem nodup_addU {s : List α} {k : α} (h : s.Nodup) : (addU s k).Nodup := by
  unfold addU
  split
  · exact h
  · rename_i hk
    rw [List.nodup_append]
    refine ⟨h, by simp, fun a ha b hb => ?_⟩
    rw [List.mem_singleton.mp hb]
    rintro rfl
    exact hk ha
theorem foldU : ∀ (ks s : List α), s.Nodup → (ks.foldl addU s).Nodup ∧ ∀ x, x ∈ ks.foldl addU s ↔ x ∈ s ∨ x ∈ ks
  | [], s, h => ⟨h, fun x => by simp⟩
  | k :: ks, s, h => by
    obtain ⟨h1, h2⟩ := foldU ks (addU s k) (nodup_addU h)
    refine ⟨h1, fun x => ?_⟩
    rw [List.foldl_cons, h2, mem_addU, List.mem_cons]
    constructor
    · rintro ((a | a) | a)
      · exact .inl a
      · exact .inr (.inl a)
      · exact .inr (.inr a)
    · rintro (a | a | a)
      · exact .inl (.inl a)
      · exact .inl (.inr a)
      · exact .inr a
/-- the greatest number -/
def mxN (c : List Nat) : Nat := c.foldl max 0
end
/-! ### classes -/
/-! ### a search by levels -/
section
variable (C : Nat → Nat) (nx : List (List Nat))
def stepT (f : List Nat) (t : Nat) : List Nat := if C t ∈ f.map C then f else f ++ [t]
def stepS (f : List Nat) (s : Nat) : List Nat := (nx.getD s []).foldl (stepT C) f
variable {C nx}
theorem stepT_pre (f : List Nat) (t : Nat) : ∃ r, stepT C f t = f ++ r := by
  unfold stepT
  split
  · exact ⟨[], by simp⟩
  · exact ⟨[t], rfl⟩
theorem foldT_pre : ∀ (ts f : List Nat), ∃ r, ts.foldl (stepT C) f = f ++ r
  | [], f => ⟨[], by simp⟩
  | t :: ts, f => by
    obtain ⟨r, hr⟩ := stepT_pre (C := C) f t
    obtain ⟨r2, hr2⟩ := foldT_pre ts (f ++ r)
    refine ⟨r ++ r2, ?_⟩
    rw [List.foldl_cons, hr, hr2, List.append_assoc]
/-- found states: of unlike classes, all below n -/
structure Fnd (C : Nat → Nat) (n : Nat) (f : List Nat) : Prop where
  nd : (f.map C).Nodup
  lt : ∀ s ∈ f, s < n
theorem Fnd.snoc {n : Nat} {f : List Nat} (h : Fnd C n f) {t : Nat} (ht : t < n) : Fnd C n (stepT C f t) := by
  unfold stepT
  split
  · exact h
  · rename_i hn
    refine ⟨?_, fun s hs => ?_⟩
    · rw [List.map_append, List.nodup_append]
      refine ⟨h.nd, by simp, fun a ha b hb => ?_⟩
      rw [List.map_singleton] at hb
      rw [List.mem_singleton.mp hb]
      rintro rfl
      exact hn ha
    · rcases List.mem_append.mp hs with q | q
      · exact h.lt s q
      · rw [List.mem_singleton.mp q]
        exact ht
theorem Fnd.fold {n : Nat} : ∀ {ts f : List Nat}, Fnd C n f → (∀ t ∈ ts, t < n) → Fnd C n (ts.foldl (stepT C) f) ∧ ∀ t ∈ ts, C t ∈ (ts.foldl (stepT C) f).map C
  | [], f, h, _ => ⟨h, by simp⟩
  | t :: ts, f, h, ht => by
    obtain ⟨h1, h2⟩ := Fnd.fold (ts := ts) (h.snoc (ht t List.mem_cons_self)) fun x hx => ht x (List.mem_cons_of_mem _ hx)
    refine ⟨h1, fun x hx => ?_⟩
    rcases List.mem_cons.mp hx with rfl | hx
    · obtain ⟨r, hr⟩ := foldT_pre (C := C) ts (stepT C f x)
      rw [List.foldl_cons, hr, List.map_append]
      refine List.mem_append_left _ ?_
      unfold stepT
      split
      · assumption
      · simp
    · exact h2 x hx
theorem Fnd.step {n : Nat} {f : List Nat} (h : Fnd C n f) {s : Nat} (hs : ∀ t ∈ nx.getD s [], t < n) : Fnd C n (stepS C nx f s) ∧ ∀ t ∈ nx.getD s [], C t ∈ (stepS C nx f s).map C := Fnd.fold h hs
theorem Fnd.len {n m : Nat} {f : List Nat} (h : Fnd C n f) (hC : ∀ s, s < n → C s < m) : f.length ≤ m := by
  have hs : f.map C ⊆ List.range m := fun x hx => by
    obtain ⟨s, hs, rfl⟩ := List.mem_map.mp hx
    exact List.mem_range.mpr (hC s (h.lt s hs))
  have := h.nd.length_le_of_subset hs
  simpa using this
end
end Py.U
/-! Dicts from keys to numbers of first meetings, as data. -/
namespace Py.U
def nD (n : Nat) : D := .int (n : Int)
/-! ### equations -/
@[simp] theorem dic0_eq (t : Bool) (e : Env) : dic0 t e = .ok (.dic t []) := rfl
/-! ### keys -/
/-! ### numbers, lines -/
def rD (r : List Nat) : D := .tup (r.map nD)
/-! ### each key by the number of its first meeting -/
end Py.U
/-! Whatever is drawn: how mirrors that draw are computed. -/
namespace Py.U
open PySem
@[simp] theorem always_ok {α : Type} {P : α → Prop} {a : α} : Always P (.ok a) = P a := rfl
theorem _root_.Py.Always.mono {α : Type} {P Q : α → Prop} {r : Res α} (h : Always P r) (k : ∀ a, P a → Q a) : Always Q r := by
  induction r with
  | ok a => exact k a h
  | exc c fs => exact h
  | stuck => exact h
  | pick n f ih => exact fun i hi => ih i (h i hi)
theorem _root_.Py.Always.bind {α β : Type} {Q : α → Prop} {P : β → Prop} {r : Res α} {f : α → Res β} (h : Always Q r) (k : ∀ a, Q a → Always P (f a)) : Always P (r >>= f) := by
  induction r with
  | ok a => exact k a h
  | exc c fs => exact h.elim
  | stuck => exact h.elim
  | pick n g ih =>
    rw [bind_pick]
    exact fun i hi => ih i (h i hi)
theorem _root_.Py.Always.noexc {α : Type} {P : α → Prop} {r : Res α} (h : Always P r) : Always P (Py.noexc r) := by
  induction r with
  | ok a => exact h
  | exc c fs => exact h.elim
  | stuck => exact h.elim
  | pick n g ih => exact fun i hi => ih i (h i hi)
theorem _root_.Py.Always.done {P : D → Prop} {r : Res Fl} (h : Always (fun f => match f with | .next _ => P .non | .ret d => P d | _ => False) r) : Always P (done r) := by
  unfold Py.done
  refine h.bind fun f hf => ?_
  cases f with
  | next e => exact hf
  | ret d => exact hf
  | brk e => exact hf
  | cnt e => exact hf
/-- a draw -/
theorem pick_a {P : D → Prop} {k : Bool} {n : Nat} (h0 : 0 < n) (h1 : n < 1000000) (h : ∀ i : Nat, i < n → P (nD i)) : Always P (pickF k [.drw (.inl k), nD n]) := by
  show Always P (if k = k ∧ 0 < ((n : Nat) : Int) ∧ ((n : Nat) : Int) < 1073741824 then .pick (((n : Nat) : Int) - 1).toNat (fun i => .ok (.int i)) else .stuck)
  rw [if_pos ⟨rfl, by omega, by omega⟩]
  intro i hi
  exact h i (by omega)
/-- a draw as it is called -/
theorem pickc {Q : D → Prop} {k : Bool} {e : Env} {i : Nat} {m : EM} {d : D} (n : Nat) (h : e[i]? = some (some (.drw (.inl k)))) (hm : m e = .ok d) (hd : d = nD n) (h0 : 0 < n) (h1 : n < 1000000) (q : ∀ i : Nat, i < n → Q (nD i)) : Always Q (call (pickF k) (argC (var i) (argC m argN)) e) := by
  rw [call_eq, argC_eq, var_eq h, bind_ok, argC_eq, hm, bind_ok, hd]
  exact pick_a h0 h1 q
/-! ### statements -/
def NX (I : Env → Prop) (f : Fl) : Prop := ∃ e, f = .next e ∧ I e
theorem seq_a {P : Fl → Prop} {I : Env → Prop} {a b : SM} {e : Env} (h : Always (NX I) (a e)) (k : ∀ e', I e' → Always P (b e')) : Always P (seq a b e) := by
  rw [seq_eq]
  refine h.bind ?_
  rintro f ⟨e', rfl, hI⟩
  exact k e' hI
theorem asg_a {P : Fl → Prop} {Q : D → Prop} {i : Nat} {m : EM} {r : SM} {e : Env} (h : Always Q (m e)) (k : ∀ d, Q d → Always P (r (e.set i (some d)))) : Always P (seq (asg (gnm i) m) r e) := by
  rw [seq_eq, asg_eq]
  refine Always.bind (Q := fun f => ∃ d, Q d ∧ f = .next (e.set i (some d))) (h.bind fun d hd => ⟨d, hd, rfl⟩) ?_
  rintro f ⟨d, hd, rfl⟩
  exact k d hd
theorem asg_1 {P : Fl → Prop} {Q : D → Prop} {i : Nat} {m : EM} {e : Env} (h : Always Q (m e)) (k : ∀ d, Q d → P (.next (e.set i (some d)))) : Always P (asg (gnm i) m e) := by
  rw [asg_eq]
  exact h.bind fun d hd => k d hd
theorem ite_a {P : Fl → Prop} {t : TM} {a b : SM} {e : Env} {c : Bool} (h : t e = .ok c) (h1 : c = true → Always P (a e)) (h2 : c = false → Always P (b e)) : Always P (Py.ite t a b e) := by
  rw [ite_eq, h, bind_ok]
  cases c
  · exact h2 rfl
  · exact h1 rfl
theorem for_a {b : D → Env → Res Fl} (I : Nat → Env → Prop) : ∀ {xs : List D} {e : Env} (k : Nat), I k e → (∀ i e, (h : i < xs.length) → I (k + i) e → Always (NX (I (k + i + 1))) (b xs[i] e)) → Always (NX (I (k + xs.length))) (forL b xs e)
  | [], e, k, h, _ => ⟨e, rfl, h⟩
  | x :: xs, e, k, h, hb => by
    unfold forL
    refine (hb 0 e (by simp) h).bind ?_
    rintro f ⟨e1, rfl, h1⟩
    have q := for_a (b := b) I (xs := xs) (e := e1) (k + 1) h1 fun i e' hi hI => by
      have := hb (i + 1) e' (by simpa using hi) (by rwa [show k + (i + 1) = k + 1 + i by omega])
      rwa [show k + (i + 1) + 1 = k + 1 + i + 1 by omega] at this
    rwa [show k + (x :: xs).length = k + 1 + xs.length by simp; omega]
theorem forR_a {b : D → Env → Res Fl} (I : Nat → Env → Prop) {n : Nat} {e : Env} (h0 : I 0 e) (hb : ∀ i e, i < n → I i e → Always (NX (I (i + 1))) (b (nD i) e)) : Always (NX (I n)) (forL b ((List.range n).map nD) e) := by
  have q := for_a (b := b) (xs := (List.range n).map nD) (e := e) I 0 h0 fun i e' hi hI => by
    have hi' : i < n := by simpa using hi
    have := hb i e' hi' (by rwa [Nat.zero_add] at hI)
    rw [Nat.zero_add]
    simpa using this
  rwa [Nat.zero_add, List.length_map, List.length_range] at q
theorem irng_n {a : EM} {e : Env} {n : Nat} (h : a e = .ok (nD n)) (hn : n ≤ 1000) : irng1 a e = .ok ((List.range n).map nD) := irng1_nat h (rng_lt hn)
theorem for_s {P : Fl → Prop} {I : Env → Prop} {it : IM} {g : GM} {b r : SM} {e : Env} {xs : List D} (h : it e = .ok xs) (hb : Always (NX I) (forL (forB g b) xs e)) (k : ∀ e', I e' → Always P (r e')) : Always P (seq (for_ it g b) r e) := by
  refine seq_a (I := I) ?_ k
  rw [for_eq, h, bind_ok]
  exact hb
/-! ### comprehensions of numbers -/
end Py.U
/-! Classes of states and the least machine, as data. -/
namespace Py.U
/-! ### tables -/
def at1 (bs : List Nat) (a : Nat) : Nat := bs.getD a 0
def rw1 (t : List (List Nat)) (i : Nat) : List Nat := t.getD i []
/-- a table of S lines, each of L numbers below B -/
structure Tbl (S L B : Nat) (t : List (List Nat)) : Prop where
  len : t.length = S
  row : ∀ r ∈ t, r.length = L ∧ ∀ x ∈ r, x < B
theorem Tbl.at {S L B : Nat} {t : List (List Nat)} (h : Tbl S L B t) {i : Nat} (hi : i < S) : t[i]? = some (rw1 t i) ∧ (rw1 t i).length = L ∧ ∀ x ∈ rw1 t i, x < B := by
  have hl : i < t.length := by rw [h.len]; exact hi
  obtain ⟨h1, h2⟩ := h.row t[i] (List.getElem_mem hl)
  have e : rw1 t i = t[i] := by
    unfold rw1
    rw [List.getD_eq_getElem?_getD, List.getElem?_eq_getElem hl]
    rfl
  rw [e]
  exact ⟨List.getElem?_eq_getElem hl, h1, h2⟩
def macD (n : Nat) (nx os : List (List Nat)) : D := .ins "Machine" [("inputs", nD n), ("nexts", .tup (nx.map rD)), ("outs", .tup (os.map rD))]
theorem lenN {α : Type} (l : List α) (f : α → D) : blen (.lst (l.map f)) = .ok (nD l.length) := by
  rw [blen_l, List.length_map]
  rfl
/-! ### the greatest number -/
theorem foldI : ∀ (r : List Nat) (a : Nat), (r.map fun (n : Nat) => (n : Int)).foldl (fun a b => if b > a then b else a) (a : Int) = ((r.foldl max a : Nat) : Int)
  | [], a => rfl
  | x :: r, a => by
    rw [List.map_cons, List.foldl_cons, List.foldl_cons, ← foldI r (max a x)]
    congr 1
    by_cases h : (x : Int) > (a : Int)
    · rw [if_pos h, Nat.max_eq_right (by omega)]
    · rw [if_neg h, Nat.max_eq_left (by omega)]
theorem bmax_nD {c : List Nat} (h : 0 < c.length) : bmaxL (.lst (c.map nD)) = .ok (nD (mxN c)) := by
  cases c with
  | nil => simp at h
  | cons x r =>
    have e : (x :: r).map nD = ((x :: r).map fun (n : Nat) => (n : Int)).map D.int := by
      rw [List.map_map]
      rfl
    have e2 := intsOf_map ((x :: r).map fun (n : Nat) => (n : Int))
    rw [← e] at e2
    show (match intsOf ((x :: r).map nD) with | some (i :: is) => Res.ok (D.int (is.foldl (fun a b => if b > a then b else a) i)) | _ => .stuck) = _
    rw [e2]
    show Res.ok (D.int ((r.map fun (n : Nat) => (n : Int)).foldl (fun a b => if b > a then b else a) (x : Int))) = _
    rw [foldI]
    have e3 : mxN (x :: r) = r.foldl max x := by
      unfold mxN
      rw [List.foldl_cons, Nat.zero_max]
    rw [e3]
    rfl
/-! ### classes -/
end Py.U
/-! The search by levels, as data: the program's form and the laws' form. -/
/-! The laws' form of the least machine. -/
/-! What a machine writes; the least machine writes the same; closures of searches. No program in sight. -/
namespace Py.U
/-! ### what is written -/
def wr (nx os : List (List Nat)) (s : Nat) : List Nat → List Nat
  | [] => []
  | l :: ls => at1 (rw1 os s) l :: wr nx os (at1 (rw1 nx s) l) ls
section
variable {S L : Nat} {nx os : List (List Nat)}
theorem at1_mem {r : List Nat} {l : Nat} (h : l < r.length) : at1 r l ∈ r := by
  unfold at1
  rw [List.getD_eq_getElem?_getD, List.getElem?_eq_getElem h]
  exact List.getElem_mem h
end
/-! ### closures -/
section
variable {α : Type} [DecidableEq α]
theorem addU_pre (f : List α) (t : α) : ∃ r, addU f t = f ++ r := by
  unfold addU
  split
  · exact ⟨[], by simp⟩
  · exact ⟨[t], rfl⟩
theorem foldU_pre : ∀ (ts f : List α), ∃ r, ts.foldl addU f = f ++ r
  | [], f => ⟨[], by simp⟩
  | t :: ts, f => by
    obtain ⟨r, hr⟩ := addU_pre f t
    obtain ⟨r2, hr2⟩ := foldU_pre ts (f ++ r)
    exact ⟨r ++ r2, by rw [List.foldl_cons, hr, hr2, List.append_assoc]⟩
variable {succ : α → List α}
/-- the successors of the first a are found -/
def CldU (succ : α → List α) (f : List α) (a : Nat) : Prop := ∀ i p, i < a → f[i]? = some p → ∀ q ∈ succ p, q ∈ f
structure FndU (P : α → Prop) (f : List α) : Prop where
  nd : f.Nodup
  all : ∀ p ∈ f, P p
theorem FndU.step {P : α → Prop} (hP : ∀ p, P p → ∀ q ∈ succ p, P q) {f : List α} (h : FndU P f) {p : α} (hp : P p) : FndU P ((succ p).foldl addU f) ∧ ∀ q ∈ succ p, q ∈ (succ p).foldl addU f := by
  obtain ⟨h1, h2⟩ := foldU (succ p) f h.nd
  refine ⟨⟨h1, fun x hx => ?_⟩, fun q hq => (h2 q).mpr (.inr hq)⟩
  rcases (h2 x).mp hx with q | q
  · exact h.all x q
  · exact hP p hp x q
theorem CldU.step {f : List α} {a : Nat} (h : CldU succ f a) {p : α} (hp : f[a]? = some p) : CldU succ ((succ p).foldl addU f) (a + 1) := fun i x hi hx q hq => by
  obtain ⟨r, hr⟩ := foldU_pre (succ p) f
  have ha : a < f.length := by
    by_cases c : a < f.length
    · exact c
    · rw [List.getElem?_eq_none (by omega)] at hp
      cases hp
  rw [hr] at hx ⊢
  rw [List.getElem?_append_left (by omega)] at hx
  by_cases e : i = a
  · subst e
    rw [hp] at hx
    cases hx
    rw [← hr]
    have : ∀ (ts f : List α) (q : α), q ∈ ts → q ∈ ts.foldl addU f := by
      intro ts
      induction ts with
      | nil => intro f q h; cases h
      | cons t ts ih =>
        intro f q h
        rw [List.foldl_cons]
        rcases List.mem_cons.mp h with rfl | h
        · obtain ⟨r, hr⟩ := foldU_pre ts (addU f q)
          rw [hr]
          exact List.mem_append_left _ (mem_addU.mpr (.inr rfl))
        · exact ih _ q h
    exact this _ _ _ hq
  · exact List.mem_append_left _ (h i x (by omega) hx q hq)
/-- the numbers of the successors -/
def cn (succ : α → List α) (f : List α) (p : α) : List Nat := (succ p).map fun q => f.idxOf q
end
end Py.U
/-! The least of the least machine is itself. -/
/-! States apart are apart by a word shorter than the number of states. -/
namespace Py.U
section
variable {S L : Nat} {nx os : List (List Nat)}
def Eqw (L : Nat) (nx os : List (List Nat)) (j s s' : Nat) : Prop := ∀ w : List Nat, w.length ≤ j → (∀ l ∈ w, l < L) → wr nx os s w = wr nx os s' w
theorem Eqw.mono {j j' s s' : Nat} (h : Eqw L nx os j s s') (hj : j' ≤ j) : Eqw L nx os j' s s' := fun w hw hl => h w (by omega) hl
end
end Py.U
/-! A search by levels over pairs of states, with the ways to them. No program in sight. -/
namespace Py.U
abbrev P2 := Nat × Nat
/-- a found pair, the way to it, the reading that leads to it -/
abbrev Nd := P2 × Option (P2 × Nat) × List Nat
def addG (p : P2) (r : List Nat) (f : List Nd) (g : Nat × P2) : List Nd := if g.2 ∈ f.map (·.1) then f else f ++ [(g.2, some (p, g.1), r ++ [g.1])]
def stepG (f : List Nd) (n : Nd) (gs : List (Nat × P2)) : List Nd := gs.foldl (addG n.1 n.2.2) f
theorem stepG_char (n : Nd) : ∀ (gs : List (Nat × P2)) (f : List Nd), (f.map (·.1)).Nodup → ∃ r, stepG f n gs = f ++ r ∧ ((f ++ r).map (·.1)).Nodup ∧ (∀ x ∈ r, ∃ l, (l, x.1) ∈ gs ∧ x = (x.1, some (n.1, l), n.2.2 ++ [l])) ∧ ∀ g ∈ gs, g.2 ∈ (f ++ r).map (·.1)
  | [], f, h => ⟨[], by simp [stepG], by simpa using h, by simp, by simp⟩
  | g :: gs, f, h => by
    unfold stepG
    rw [List.foldl_cons]
    by_cases c : g.2 ∈ f.map (·.1)
    · have e : addG n.1 n.2.2 f g = f := if_pos c
      rw [e]
      obtain ⟨r, h1, h2, h3, h4⟩ := stepG_char n gs f h
      refine ⟨r, h1, h2, fun x hx => ?_, fun y hy => ?_⟩
      · obtain ⟨l, a, b⟩ := h3 x hx
        exact ⟨l, List.mem_cons_of_mem _ a, b⟩
      · rcases List.mem_cons.mp hy with rfl | hy
        · rw [List.map_append]
          exact List.mem_append_left _ c
        · exact h4 y hy
    · have e : addG n.1 n.2.2 f g = f ++ [(g.2, some (n.1, g.1), n.2.2 ++ [g.1])] := if_neg c
      rw [e]
      have hn : ((f ++ [(g.2, some (n.1, g.1), n.2.2 ++ [g.1])]).map (·.1)).Nodup := by
        rw [List.map_append, List.nodup_append]
        refine ⟨h, by simp, fun a ha b hb => ?_⟩
        rw [List.map_singleton] at hb
        rw [List.mem_singleton.mp hb]
        rintro rfl
        exact c ha
      obtain ⟨r, h1, h2, h3, h4⟩ := stepG_char n gs _ hn
      refine ⟨(g.2, some (n.1, g.1), n.2.2 ++ [g.1]) :: r, ?_, ?_, fun x hx => ?_, fun y hy => ?_⟩
      · refine h1.trans ?_
        rw [List.append_assoc]
        rfl
      · rw [List.append_assoc] at h2
        exact h2
      · rcases List.mem_cons.mp hx with rfl | hx
        · exact ⟨g.1, List.mem_cons_self, rfl⟩
        · obtain ⟨l, a, b⟩ := h3 x hx
          exact ⟨l, List.mem_cons_of_mem _ a, b⟩
      · rcases List.mem_cons.mp hy with rfl | hy
        · simp
        · have := h4 y hy
          rw [List.append_assoc] at this
          exact this
structure Wf (gs : P2 → List (Nat × P2)) (b : P2) (f : List Nd) (a : Nat) : Prop where
  nd : (f.map (·.1)).Nodup
  hd : f[0]? = some (b, none, [])
  par : ∀ (j : Nat) (n : Nd), f[j]? = some n → j = 0 ∨ ∃ (i : Nat) (m : Nd) (l : Nat), i < j ∧ i < a ∧ f[i]? = some m ∧ n = (n.1, some (m.1, l), m.2.2 ++ [l]) ∧ (l, n.1) ∈ gs m.1
  clo : ∀ (i : Nat) (n : Nd), i < a → f[i]? = some n → ∀ g ∈ gs n.1, ∃ (j : Nat) (m : Nd), f[j]? = some m ∧ m.1 = g.2 ∧ m.2.2.length ≤ n.2.2.length + 1
  mono : ∀ (i j : Nat) (m n : Nd), i ≤ j → f[i]? = some m → f[j]? = some n → m.2.2.length ≤ n.2.2.length
  top : ∀ (i : Nat) (n m : Nd), f[a]? = some n → f[i]? = some m → m.2.2.length ≤ n.2.2.length + 1
theorem Wf.step {gs : P2 → List (Nat × P2)} {b : P2} {f : List Nd} {a : Nat} (h : Wf gs b f a) {n : Nd} (hn : f[a]? = some n) : Wf gs b (stepG f n (gs n.1)) (a + 1) := by
  obtain ⟨r, e, h2, h3, h4⟩ := stepG_char n (gs n.1) f h.nd
  rw [e]
  have ha : a < f.length := (List.getElem?_eq_some_iff.mp hn).1
  have old : ∀ (j : Nat) (m : Nd), (f ++ r)[j]? = some m → (j < f.length ∧ f[j]? = some m) ∨ (f.length ≤ j ∧ m ∈ r ∧ m.2.2.length = n.2.2.length + 1) := fun j m hm => by
    by_cases c : j < f.length
    · rw [List.getElem?_append_left c] at hm
      exact .inl ⟨c, hm⟩
    · rw [List.getElem?_append_right (by omega)] at hm
      have hr := List.mem_of_getElem? hm
      obtain ⟨l, _, q⟩ := h3 m hr
      refine .inr ⟨by omega, hr, ?_⟩
      rw [q]
      simp
  have new : ∀ {j : Nat} {m : Nd}, f[j]? = some m → (f ++ r)[j]? = some m := fun {j m} hm => by
    rw [List.getElem?_append_left (List.getElem?_eq_some_iff.mp hm).1]
    exact hm
  have all : ∀ (j : Nat) (m : Nd), (f ++ r)[j]? = some m → m.2.2.length ≤ n.2.2.length + 1 := fun j m hm => by
    rcases old j m hm with ⟨_, q⟩ | ⟨_, _, q⟩
    · exact h.top j n m hn q
    · omega
  refine ⟨h2, new h.hd, fun j m hm => ?_, fun i m hi hm g hg => ?_, fun i j m m' hij hm hm' => ?_, fun i m m' hm hm' => ?_⟩
  · rcases old j m hm with ⟨_, q⟩ | ⟨q1, q2, _⟩
    · rcases h.par j m q with q | ⟨i, m', l, i1, i2, i3, i4, i5⟩
      · exact .inl q
      · exact .inr ⟨i, m', l, i1, by omega, new i3, i4, i5⟩
    · obtain ⟨l, x1, x2⟩ := h3 m q2
      exact .inr ⟨a, n, l, by omega, by omega, new hn, x2, x1⟩
  · by_cases c : i = a
    · subst c
      have e2 : m = n := Option.some.inj (hm.symm.trans (new hn))
      subst e2
      obtain ⟨m', x1, x2⟩ := List.mem_map.mp (h4 g hg)
      obtain ⟨j, hj, rfl⟩ := List.mem_iff_getElem.mp x1
      exact ⟨j, _, List.getElem?_eq_getElem hj, x2, all j _ (List.getElem?_eq_getElem hj)⟩
    · have hi2 : i < a := by omega
      rcases old i m hm with ⟨_, q⟩ | ⟨q, _⟩
      · obtain ⟨j, m', x1, x2, x3⟩ := h.clo i m hi2 q g hg
        exact ⟨j, m', new x1, x2, x3⟩
      · omega
  · rcases old i m hm with ⟨_, q⟩ | ⟨q, _, q3⟩
    · rcases old j m' hm' with ⟨_, q'⟩ | ⟨_, _, q'⟩
      · exact h.mono i j m m' hij q q'
      · have := h.top i n m hn q
        omega
    · rcases old j m' hm' with ⟨q', _⟩ | ⟨_, _, q'⟩
      · omega
      · omega
  · have l1 := all i m' hm'
    have : n.2.2.length ≤ m.2.2.length := by
      rcases old (a + 1) m hm with ⟨_, q⟩ | ⟨_, _, q⟩
      · exact h.mono a (a + 1) n m (by omega) hn q
      · omega
    omega
/-! ### readings lead to the pairs -/
section
variable {L : Nat} {nx1 os1 nx2 os2 : List (List Nat)}
def stW (nx : List (List Nat)) (s : Nat) (w : List Nat) : Nat := w.foldl (fun s l => at1 (rw1 nx s) l) s
theorem stW_snoc (nx : List (List Nat)) (s : Nat) (w : List Nat) (l : Nat) : stW nx s (w ++ [l]) = at1 (rw1 nx (stW nx s w)) l := by
  unfold stW
  rw [List.foldl_append]
  rfl
def runP (nx1 nx2 : List (List Nat)) (b : P2) (w : List Nat) : P2 := (stW nx1 b.1 w, stW nx2 b.2 w)
def gsP (L : Nat) (nx1 nx2 : List (List Nat)) (p : P2) : List (Nat × P2) := (List.range L).map fun l => (l, (at1 (rw1 nx1 p.1) l, at1 (rw1 nx2 p.2) l))
theorem mem_gsP {p g : P2} {l : Nat} : (l, g) ∈ gsP L nx1 nx2 p ↔ l < L ∧ g = (at1 (rw1 nx1 p.1) l, at1 (rw1 nx2 p.2) l) := by
  unfold gsP
  constructor
  · intro h
    obtain ⟨x, hx, e⟩ := List.mem_map.mp h
    have := List.mem_range.mp hx
    cases e
    exact ⟨this, rfl⟩
  · rintro ⟨h, rfl⟩
    exact List.mem_map.mpr ⟨l, List.mem_range.mpr h, rfl⟩
theorem Wf.lead {b : P2} {f : List Nd} {a : Nat} (h : Wf (gsP L nx1 nx2) b f a) : ∀ (j : Nat) (n : Nd), f[j]? = some n → runP nx1 nx2 b n.2.2 = n.1 ∧ ∀ l ∈ n.2.2, l < L := by
  intro j
  induction j using Nat.strongRecOn with
  | ind j ih =>
    intro n hn
    rcases h.par j n hn with rfl | ⟨i, m, l, i1, i2, i3, i4, i5⟩
    · have := Option.some.inj (hn.symm.trans h.hd)
      subst this
      exact ⟨rfl, by simp⟩
    · obtain ⟨q1, q2⟩ := ih i i1 m i3
      obtain ⟨g1, g2⟩ := mem_gsP.mp i5
      have er : n.2.2 = m.2.2 ++ [l] := by rw [i4]
      rw [er]
      refine ⟨?_, fun x hx => ?_⟩
      · rw [g2]
        unfold runP at q1 ⊢
        rw [stW_snoc, stW_snoc, ← q1]
      · rcases List.mem_append.mp hx with c | c
        · exact q2 x c
        · rw [List.mem_singleton.mp c]
          exact g1
end
end Py.U
/-! The two searches over pairs find the same. -/
/-! The first reading by which two states are apart. -/
namespace Py.U
section
variable {S1 S2 L B : Nat} {nx1 os1 nx2 os2 : List (List Nat)}
theorem stW_lt {S : Nat} {nx : List (List Nat)} (h : Tbl S L S nx) : ∀ (w : List Nat) (s : Nat), s < S → (∀ l ∈ w, l < L) → stW nx s w < S
  | [], s, hs, _ => hs
  | l :: w, s, hs, hl => stW_lt h w (at1 (rw1 nx s) l) ((h.at hs).2.2 _ (at1_mem (by rw [(h.at hs).2.1]; exact hl l List.mem_cons_self))) fun x hx => hl x (List.mem_cons_of_mem _ hx)
theorem Wf.lt (h1 : Tbl S1 L S1 nx1) (h2 : Tbl S2 L S2 nx2) {b : P2} (hb : b.1 < S1 ∧ b.2 < S2) {f : List Nd} {a : Nat} (h : Wf (gsP L nx1 nx2) b f a) {n : Nd} (hn : n ∈ f) : n.1.1 < S1 ∧ n.1.2 < S2 := by
  obtain ⟨j, hj, rfl⟩ := List.mem_iff_getElem.mp hn
  obtain ⟨q1, q2⟩ := h.lead j _ (List.getElem?_eq_getElem hj)
  rw [← q1]
  exact ⟨stW_lt h1 _ _ hb.1 q2, stW_lt h2 _ _ hb.2 q2⟩
theorem all_pairs (S1 S2 : Nat) : ((List.range S1).flatMap fun i => (List.range S2).map fun j => (i, j)).length = S1 * S2 := by
  rw [List.length_flatMap]
  have : (List.range S1).map (fun a => ((List.range S2).map fun j => (a, j)).length) = List.replicate S1 S2 := by
    apply List.ext_getElem <;> simp
  rw [this]
  simp
theorem Wf.size (h1 : Tbl S1 L S1 nx1) (h2 : Tbl S2 L S2 nx2) {b : P2} (hb : b.1 < S1 ∧ b.2 < S2) (f : List Nd) (a : Nat) (h : Wf (gsP L nx1 nx2) b f a) : f.length ≤ S1 * S2 := by
  have q := h.nd.length_le_of_subset (l₂ := (List.range S1).flatMap fun i => (List.range S2).map fun j => (i, j)) fun p hp => by
    obtain ⟨n, hn, rfl⟩ := List.mem_map.mp hp
    obtain ⟨a1, a2⟩ := h.lt h1 h2 hb hn
    exact List.mem_flatMap.mpr ⟨n.1.1, List.mem_range.mpr a1, List.mem_map.mpr ⟨n.1.2, List.mem_range.mpr a2, rfl⟩⟩
  rw [all_pairs, List.length_map] at q
  exact q
/-! ### both exchanged -/
end
end Py.U
/-! The dict of the ways to pairs, as data. -/
/-! How long the readings found are. -/
/-! Words of numbers, bit by bit. -/
namespace Py.U
def bt (n p : Nat) : Nat := n / 2 ^ p % 2
/-! ### sums -/
/-! ### differences -/
end Py.U
/-! Lanes: numbers whose bits stand for many places at once. No program in sight. -/
namespace Py.U
open PySem
theorem nat_eq (a b : Nat) : oeq (nD a) (nD b) = .ok (.bl (decide (a = b))) := by
  unfold nD
  rw [oeq_ii]
  congr 2
  rw [Bool.eq_iff_iff]
  simp only [beq_iff_eq, decide_eq_true_eq]
  exact Int.ofNat_inj
theorem nadd (a b : Nat) : oadd (nD a) (nD b) = .ok (nD (a + b)) := by
  unfold nD
  rw [oadd_ii]
  rfl
theorem enum_at {ds : List D} {k i : Nat} (h : i < (enumL k ds).length) (h2 : i < ds.length) : (enumL k ds)[i] = .tup [.int ((k + i : Nat) : Int), ds[i]] := by
  induction ds generalizing k i with
  | nil => simp at h2
  | cons d ds ih =>
    cases i with
    | zero => rfl
    | succ i =>
      simp only [enumL, List.getElem_cons_succ]
      rw [ih (k := k + 1) _ (by simpa using h2)]
      rw [show k + 1 + i = k + (i + 1) by omega]
theorem enum_len : ∀ (ds : List D) (k : Nat), (enumL k ds).length = ds.length
  | [], _ => rfl
  | d :: ds, k => by
    simp only [enumL, List.length_cons]
    rw [enum_len ds]
theorem isint_ok (n : Nat) : m_is_integer [nD n] = .ok (.bl true) := by
  have h1 : oisi CS [.int] (nD n) = .ok (.bl true) := rfl
  have h2 : oisi CS [.bl] (nD n) = .ok (.bl false) := rfl
  unfold m_is_integer
  rw [fn1]
  unfold b_is_integer
  generalize nD n = N at *
  simp [var, h1, h2]
theorem is_below_ok (a b : Nat) : m_is_below [nD a, nD b] = .ok (.bl (decide (a < b))) := by
  have h := isint_ok a
  have h1 : ole (.int 0) (nD a) = .ok (.bl true) := by
    unfold nD
    rw [ole_ii, decide_eq_true (by omega)]
  have h2 : olt (nD a) (nD b) = .ok (.bl (decide (a < b))) := by
    unfold nD
    rw [olt_ii]
    congr 2
    exact decide_eq_decide.mpr (by omega)
  unfold m_is_below
  rw [fn2]
  unfold b_is_below
  generalize nD a = A at *
  generalize nD b = B at *
  simp [var, h, h1, h2]
theorem shl_nD {n : Nat} (h : n ≤ 1000) : oshl (.int 1) (nD n) = .ok (nD (2 ^ n)) := by
  unfold nD
  rw [oshl1 n h]
  simp
/-! ### the same? -/
/-! ### the row is made -/
theorem inputs_ok {n : Nat} (h1 : 1 ≤ n) (h3 : n ≤ 3) : m_is_inputs [nD n] = .ok (.bl true) := by
  have : n = 1 ∨ n = 2 ∨ n = 3 := by omega
  rcases this with rfl | rfl | rfl <;> rfl
theorem made_eq {p n : Nat} {cls : String} {body : SM} {ds : List D} {c : String} {fs : List (String × D)} {r : Env} (hl : ds.length + 1 = p) (h : body ((some (.ins cls []) :: ds.map some) ++ List.replicate (n - p) none) = .ok (.next (some (.ins c fs) :: r))) : made p n cls body ds = .ok (.ins c fs) := by
  unfold made
  rw [if_pos hl, h]
  rfl
/-! ### numbers from nought -/
theorem nsub {a b : Nat} (h : b ≤ a) : osub (nD a) (nD b) = .ok (nD (a - b)) := by
  unfold nD
  rw [osub_ii]
  congr 2
  omega
theorem cut_take {α : Type} (xs : List α) {k : Nat} (h : k ≤ xs.length) : cut xs none (some (k : Int)) = xs.take k := by
  unfold cut
  have e0 : HT.sIx xs.length 0 none = 0 := rfl
  have e1 : HT.sIx xs.length xs.length (some (k : Int)) = k := by rw [HT.sIx_nat, Nat.min_eq_left h]
  rw [e0, e1, List.drop_zero, Nat.sub_zero]
/-! ### letters drawn -/
theorem chk_pass {c : TM} {r b : SM} {e : Env} (h : c e = .ok false) : seq (Py.ite c b skip) r e = r e := by
  refine seq_next ?_
  unfold Py.ite
  rw [h, bind_ok]
  rfl
theorem asg_pass {i : Nat} {m : EM} {r : SM} {e : Env} {d : D} (h : m e = .ok d) : seq (asg (gnm i) m) r e = r (e.set i (some d)) := by
  refine seq_next ?_
  rw [asg_eq, h]
  rfl
theorem for_pass {it : IM} {g : GM} {b r : SM} {e e' : Env} {xs : List D} (h : it e = .ok xs) (h2 : forL (forB g b) xs e = .ok (.next e')) : seq (for_ it g b) r e = r e' := by
  refine seq_next ?_
  rw [for_eq, h]
  exact h2
/-! ### deeds drawn -/
theorem as_tup (ds : List D) : m_as_tuple [.lst ds] = .ok (.tup ds) := by
  have h : oisi CS [.lst, .tup] (.lst ds) = .ok (.bl true) := rfl
  unfold m_as_tuple
  rw [fn1]
  unfold b_as_tuple
  simp [var, h]
end Py.U
namespace Py.U
open PySem
/-! ### deeds -/
inductive Deed where
  | zero | ones | inv (a : Nat) | and (a b : Nat) | or (a b : Nat) | xor (a b : Nat)
  | shift (a : Nat) | minus (a : Nat) | add (a b : Nat) | sub (a b : Nat) | count (p r : Nat) (ps : List Nat)
def Deed.d : Deed → D
  | .zero => .tup [.str "zero"]
  | .ones => .tup [.str "ones"]
  | .inv a => .tup [.str "not", nD a]
  | .and a b => .tup [.str "and", nD a, nD b]
  | .or a b => .tup [.str "or", nD a, nD b]
  | .xor a b => .tup [.str "xor", nD a, nD b]
  | .shift a => .tup [.str "shift", nD a]
  | .minus a => .tup [.str "minus", nD a]
  | .add a b => .tup [.str "add", nD a, nD b]
  | .sub a b => .tup [.str "sub", nD a, nD b]
  | .count p r ps => .tup [.str "count", nD p, nD r, .tup (ps.map nD)]
/-- its values stand ahead of n -/
def Deed.ok (n : Nat) : Deed → Prop
  | .zero => True
  | .ones => True
  | .inv a => a < n
  | .and a b => a < n ∧ b < n
  | .or a b => a < n ∧ b < n
  | .xor a b => a < n ∧ b < n
  | .shift a => a < n
  | .minus a => a < n
  | .add a b => a < n ∧ b < n
  | .sub a b => a < n ∧ b < n
  | .count p r ps => (p = 2 ∨ p = 3 ∨ p = 5) ∧ r < p ∧ 1 ≤ ps.length ∧ ps.length ≤ 4 ∧ ∀ a ∈ ps, a < n
/-! ### what deeds do, bit by bit -/
def at0 (bs : List Nat) (a : Nat) : Nat := bs.getD a 0
def tot (bs : List Nat) (ps : List Nat) : Nat := (ps.map (at0 bs)).sum
def Deed.marked : Deed → Bool
  | .shift _ => true
  | .minus _ => true
  | .add _ _ => true
  | .sub _ _ => true
  | .count _ _ _ => true
  | _ => false
def Deed.top : Deed → Nat
  | .count p _ _ => p
  | _ => 2
/-- the bit of a deed without a mark -/
def Deed.bit0 (bs : List Nat) : Deed → Nat
  | .ones => 1
  | .inv a => 1 - at0 bs a
  | .and a b => if at0 bs a + at0 bs b = 2 then 1 else 0
  | .or a b => if 0 < at0 bs a + at0 bs b then 1 else 0
  | .xor a b => if at0 bs a = at0 bs b then 0 else 1
  | _ => 0
/-- the bit and the next mark of a deed with a mark -/
def Deed.bit1 (bs : List Nat) (m : Nat) : Deed → Nat
  | .shift _ => m
  | .minus a => (at0 bs a + m) % 2
  | .add a b => (at0 bs a + at0 bs b + m) % 2
  | .sub a b => (at0 bs a + at0 bs b + m) % 2
  | .count _ r _ => if m = r then 1 else 0
  | _ => 0
def Deed.next (bs : List Nat) (m : Nat) : Deed → Nat
  | .shift a => at0 bs a
  | .minus a => if 1 ≤ at0 bs a + m then 1 else 0
  | .add a b => if 2 ≤ at0 bs a + at0 bs b + m then 1 else 0
  | .sub a b => if at0 bs a < at0 bs b + m then 1 else 0
  | .count p _ ps => (m + tot bs ps) % p
  | _ => 0
def Bits (bs : List Nat) : Prop := ∀ b ∈ bs, b = 0 ∨ b = 1
theorem at0_01 {bs : List Nat} (h : Bits bs) (a : Nat) : at0 bs a = 0 ∨ at0 bs a = 1 := by
  unfold at0
  by_cases q : a < bs.length
  · simp only [List.getD_eq_getElem?_getD, List.getElem?_eq_getElem q, Option.getD_some]
    exact h _ (List.getElem_mem q)
  · rw [List.getD_eq_getElem?_getD, List.getElem?_eq_none (by omega)]
    exact .inl rfl
/-! the law's own bit -/
/-! ### all deeds of a row, at one place -/
abbrev St := List Nat × List Nat
def stp (ms : List Nat) (s : St) (x : Deed) : St :=
  if x.marked then (s.1 ++ [x.bit1 s.1 (ms.getD s.2.length 0)], s.2 ++ [x.next s.1 (ms.getD s.2.length 0)]) else (s.1 ++ [x.bit0 s.1], s.2)
def tops (xs : List Deed) : List Nat := (xs.filter Deed.marked).map Deed.top
/-- marks below their numbers -/
def Fit : List Nat → List Nat → Prop
  | [], [] => True
  | m :: ms, t :: ts => m < t ∧ Fit ms ts
  | _, _ => False
theorem Fit.len : ∀ {ms ts : List Nat}, Fit ms ts → ms.length = ts.length
  | [], [], _ => rfl
  | m :: ms, t :: ts, h => congrArg (· + 1) (Fit.len h.2)
  | [], _ :: _, h => h.elim
  | _ :: _, [], h => h.elim
theorem Fit.at : ∀ {ms ts : List Nat} {j t : Nat}, Fit ms ts → ts[j]? = some t → ms.getD j 0 < t
  | [], [], _, _, _, h => by simp at h
  | m :: ms, t :: ts, 0, _, h, e => by
    simp at e
    subst e
    exact h.1
  | m :: ms, t :: ts, j + 1, _, h, e => by
    simp at e
    simpa using Fit.at (j := j) h.2 e
  | [], _ :: _, _, _, h, _ => h.elim
  | _ :: _, [], _, _, h, _ => h.elim
theorem Fit.snoc : ∀ {ms ts : List Nat} {m t : Nat}, Fit ms ts → m < t → Fit (ms ++ [m]) (ts ++ [t])
  | [], [], _, _, _, h => ⟨h, trivial⟩
  | m :: ms, t :: ts, _, _, h, h2 => ⟨h.1, Fit.snoc h.2 h2⟩
  | [], _ :: _, _, _, h, _ => h.elim
  | _ :: _, [], _, _, h, _ => h.elim
/-- the deeds' values stand ahead -/
def Row (n : Nat) (xs : List Deed) : Prop := ∀ k, (h : k < xs.length) → xs[k].ok (n + k)
theorem next_lt {bs : List Nat} (hb : Bits bs) {x : Deed} (hm : x.marked = true) {n : Nat} (hx : x.ok n) (m : Nat) : x.next bs m < x.top := by
  cases x with
  | shift a =>
    show at0 bs a < 2
    rcases at0_01 hb a with e | e <;> omega
  | minus a =>
    show (if 1 ≤ at0 bs a + m then 1 else 0) < 2
    split <;> omega
  | add a b =>
    show (if 2 ≤ at0 bs a + at0 bs b + m then 1 else 0) < 2
    split <;> omega
  | sub a b =>
    show (if at0 bs a < at0 bs b + m then 1 else 0) < 2
    split <;> omega
  | count p r ps =>
    obtain ⟨hp, hr, _⟩ := hx
    exact Nat.mod_lt _ (by omega)
  | _ => cases hm
theorem if01 {c : Prop} [Decidable c] : (if c then 1 else 0 : Nat) = 0 ∨ (if c then 1 else 0 : Nat) = 1 := by split <;> simp
theorem if01' {c : Prop} [Decidable c] : (if c then 0 else 1 : Nat) = 0 ∨ (if c then 0 else 1 : Nat) = 1 := by split <;> simp
theorem mod01 (a : Nat) : a % 2 = 0 ∨ a % 2 = 1 := by omega
theorem bit0_01 {bs : List Nat} (hb : Bits bs) (x : Deed) : x.bit0 bs = 0 ∨ x.bit0 bs = 1 := by
  cases x with
  | ones => exact .inr rfl
  | inv a =>
    show 1 - at0 bs a = 0 ∨ 1 - at0 bs a = 1
    omega
  | and a b => exact if01
  | or a b => exact if01
  | xor a b => exact if01'
  | _ => exact .inl rfl
theorem bit1_01 {bs : List Nat} (hb : Bits bs) (x : Deed) {m : Nat} (hm : m < x.top) : x.bit1 bs m = 0 ∨ x.bit1 bs m = 1 := by
  cases x with
  | shift a =>
    have h : m < 2 := hm
    show m = 0 ∨ m = 1
    omega
  | minus a => exact mod01 _
  | add a b => exact mod01 _
  | sub a b => exact mod01 _
  | count p r ps => exact if01
  | _ => exact .inl rfl
/-- where one stands behind k deeds -/
structure At (n : Nat) (ms : List Nat) (xs : List Deed) (k : Nat) (s : St) : Prop where
  bits : Bits s.1
  len : s.1.length = n + k
  fit : Fit s.2 (tops (xs.take k))
  eq : s = (xs.take k).foldl (stp ms) (s.1.take n, [])
theorem tops_snoc (xs : List Deed) (x : Deed) : tops (xs ++ [x]) = if x.marked then tops xs ++ [x.top] else tops xs := by
  unfold tops
  rw [List.filter_append, List.map_append]
  cases h : x.marked <;> simp [h]
theorem tops_at {xs : List Deed} {k : Nat} (h : k < xs.length) (hm : xs[k].marked = true) : (tops xs)[(tops (xs.take k)).length]? = some xs[k].top := by
  have e : xs = xs.take k ++ (xs[k] :: xs.drop (k + 1)) := by
    rw [← List.drop_eq_getElem_cons h, List.take_append_drop]
  have e2 : tops xs = tops (xs.take k) ++ (xs[k].top :: tops (xs.drop (k + 1))) := by
    unfold tops
    conv => lhs; rw [e]
    rw [List.filter_append, List.map_append, List.filter_cons, hm]
    rfl
  rw [e2, List.getElem?_append_right (Nat.le_refl _), Nat.sub_self]
  rfl
theorem At.step {n : Nat} {ms : List Nat} {xs : List Deed} {k : Nat} {s : St} (A : At n ms xs k s) (hf : Fit ms (tops xs)) (hr : Row n xs) (hk : k < xs.length) : At n ms xs (k + 1) (stp ms s xs[k]) := by
  have ht : xs.take (k + 1) = xs.take k ++ [xs[k]] := by
    rw [List.take_add_one]
    simp [hk]
  have hl := A.fit.len
  have hx := hr k hk
  rw [← A.len] at hx
  cases hm : xs[k].marked with
  | true =>
    have hlt : ms.getD s.2.length 0 < xs[k].top := by
      rw [hl]
      exact hf.at (tops_at hk hm)
    have e : stp ms s xs[k] = (s.1 ++ [xs[k].bit1 s.1 (ms.getD s.2.length 0)], s.2 ++ [xs[k].next s.1 (ms.getD s.2.length 0)]) := by
      unfold stp
      rw [hm]
      rfl
    refine ⟨?_, ?_, ?_, ?_⟩
    · rw [e]
      intro b hb
      rcases List.mem_append.mp hb with hb | hb
      · exact A.bits b hb
      · rw [List.mem_singleton.mp hb]
        exact bit1_01 A.bits _ hlt
    · rw [e]
      simp [A.len]
      omega
    · rw [e, ht, tops_snoc, hm]
      exact A.fit.snoc (next_lt A.bits hm hx _)
    · have e2 : (stp ms s xs[k]).1.take n = s.1.take n := by
        rw [e]
        exact List.take_append_of_le_length (by rw [A.len]; omega)
      rw [e2, ht, List.foldl_append, ← A.eq]
      rfl
  | false =>
    have e : stp ms s xs[k] = (s.1 ++ [xs[k].bit0 s.1], s.2) := by
      unfold stp
      rw [hm]
      rfl
    refine ⟨?_, ?_, ?_, ?_⟩
    · rw [e]
      intro b hb
      rcases List.mem_append.mp hb with hb | hb
      · exact A.bits b hb
      · rw [List.mem_singleton.mp hb]
        exact bit0_01 A.bits _
    · rw [e]
      simp [A.len]
      omega
    · rw [e, ht, tops_snoc, hm]
      exact A.fit
    · have e2 : (stp ms s xs[k]).1.take n = s.1.take n := by
        rw [e]
        exact List.take_append_of_le_length (by rw [A.len]; omega)
      rw [e2, ht, List.foldl_append, ← A.eq]
      rfl
def Deed.name : Deed → String
  | .zero => "zero"
  | .ones => "ones"
  | .inv _ => "not"
  | .and _ _ => "and"
  | .or _ _ => "or"
  | .xor _ _ => "xor"
  | .shift _ => "shift"
  | .minus _ => "minus"
  | .add _ _ => "add"
  | .sub _ _ => "sub"
  | .count _ _ _ => "count"
/-- the bits of a letter -/
def lb (n letter : Nat) : List Nat := (List.range n).map fun k => letter / 2 ^ k % 2
theorem At.all {n : Nat} {ms : List Nat} {xs : List Deed} {bs : List Nat} (hb : Bits bs) (hl : bs.length = n) (hf : Fit ms (tops xs)) (hr : Row n xs) : ∀ k, k ≤ xs.length → At n ms xs k ((xs.take k).foldl (stp ms) (bs, []))
  | 0, _ => ⟨hb, by simpa using hl, trivial, by simp [← hl]⟩
  | k + 1, h => by
    have A := At.all hb hl hf hr k (by omega)
    have hk : k < xs.length := h
    have ht : (xs.take (k + 1)).foldl (stp ms) (bs, []) = stp ms ((xs.take k).foldl (stp ms) (bs, [])) xs[k] := by
      rw [List.take_add_one, List.foldl_append]
      simp [hk]
    rw [ht]
    exact A.step hf hr hk
end Py.U
namespace Py.U
open PySem
def rowD (n : Nat) (xs : List Deed) (out : Nat) : D := .ins "Row" [("inputs", nD n), ("deeds", .tup (xs.map Deed.d)), ("out", nD out)]
theorem row_inputs (n : Nat) (xs : List Deed) (out : Nat) : oattr ["Row", "Machine"] "inputs" (rowD n xs out) = .ok (nD n) := rfl
theorem row_deeds (n : Nat) (xs : List Deed) (out : Nat) : oattr ["Row"] "deeds" (rowD n xs out) = .ok (.tup (xs.map Deed.d)) := rfl
theorem are_values_ok {W : D} {ps : List Nat} {k : Nat} (hW : iseq (var 0) [some W, some (nD k), none] = .ok (ps.map nD)) (hp : ∀ a ∈ ps, a < k) (hz : ps.length ≤ 1000) : m_are_values [W, nD k] = .ok (.bl true) := by
  have hc : lcE (iseq (var 0)) [2] (gnm 2) yes (call m_is_below (argC (var 2) (argC (var 1) argN))) [some W, some (nD k), none] = .ok (.lst (ps.map fun _ => .bl true)) := by
    refine lc_mapI (k := nD) hW (le_sz hz) fun a ha => ?_
    have q := is_below_ok a k
    rw [decide_eq_true (hp a ha)] at q
    generalize nD a = A at *
    generalize nD k = N at *
    exact ⟨_, rfl, by simp only [wipe]; simp [var, q]⟩
  have hb : ball (.lst (ps.map fun _ => .bl true)) = .ok (.bl true) := by
    have := ball_bools (ps.map fun _ => true)
    rw [List.map_map] at this
    refine this.trans ?_
    rw [show (ps.map fun _ => true).all id = true by simp]
  unfold m_are_values
  rw [fn2]
  unfold b_are_values
  generalize nD k = N at *
  generalize D.lst (ps.map fun _ => .bl true) = Z at *
  simp [var, hc, hb]
theorem values_t {ps : List Nat} {k : Nat} (hp : ∀ a ∈ ps, a < k) (hz : ps.length ≤ 1000) : m_are_values [.tup (ps.map nD), nD k] = .ok (.bl true) := are_values_ok (by simp [var]) hp hz
theorem count_deed_ok {p r k : Nat} {ps : List Nat} (hp : p = 2 ∨ p = 3 ∨ p = 5) (hr : r < p) (h1 : 1 ≤ ps.length) (h4 : ps.length ≤ 4) (ha : ∀ a ∈ ps, a < k) : m_is_count_deed [(Deed.count p r ps).d, nD k] = .ok (.bl true) := by
  have q1 := isint_ok p
  have q2 := is_below_ok r p
  rw [decide_eq_true hr] at q2
  have q3 := values_t ha (by omega)
  have q4 : onotin (nD p) (.tup [.int 2, .int 3, .int 5]) = .ok (.bl false) := by rcases hp with rfl | rfl | rfl <;> rfl
  have q5 : blen (Deed.count p r ps).d = .ok (.int 4) := rfl
  have q6 : oslc (Deed.count p r ps).d (some 1) none = .ok (.tup [nD p, nD r, .tup (ps.map nD)]) := rfl
  have q7 : oisi CS [.tup] (.tup (ps.map nD)) = .ok (.bl true) := rfl
  have q8 : blen (.tup (ps.map nD)) = .ok (.int ((ps.length : Nat) : Int)) := by simp
  have q9 : ole (.int 1) (.int ((ps.length : Nat) : Int)) = .ok (.bl true) := by rw [ole_ii, decide_eq_true (by omega)]
  have q10 : ole (.int ((ps.length : Nat) : Int)) (.int 4) = .ok (.bl true) := by rw [ole_ii, decide_eq_true (by omega)]
  unfold m_is_count_deed
  rw [fn2]
  unfold b_is_count_deed
  generalize (Deed.count p r ps).d = X at *
  generalize D.tup (ps.map nD) = T at *
  generalize ((ps.length : Nat) : Int) = Z at *
  generalize nD p = P' at *
  generalize nD r = R' at *
  generalize nD k = K' at *
  simp [var, gtup, gtupL, slc_eq, bnd_none, bnd_some, q1, q2, q3, q4, q5, q6, q7, q8, q9, q10]
theorem deed_plain {s : String} {vs : List Nat} {k : Nat} (hs : oeq (.str s) (.str "count") = .ok (.bl false)) (ht : onothas tab_SIZES (.str s) = .ok (.bl false)) (hl : olook tab_SIZES (.str s) = .ok (.int (vs.length : Int))) (ha : ∀ a ∈ vs, a < k) (hz : vs.length ≤ 1000) : m_is_deed [.tup (.str s :: vs.map nD), nD k] = .ok (.bl true) := by
  have q1 : oisi CS [.tup] (.tup (.str s :: vs.map nD)) = .ok (.bl true) := rfl
  have q2 : truthy (.tup (.str s :: vs.map nD)) = .ok true := by simp [truthy]
  have q3 : oidx (.tup (.str s :: vs.map nD)) (.int 0) = .ok (.str s) := oidx_t (k := 0) rfl
  have q4 : oisi CS [.str] (.str s) = .ok (.bl true) := rfl
  have q5 : blen (.tup (.str s :: vs.map nD)) = .ok (.int ((vs.length : Int) + 1)) := by simp
  have q6 : oslc (.tup (.str s :: vs.map nD)) (some 1) none = .ok (.tup (vs.map nD)) := by
    show Res.ok (D.tup (cut (.str s :: vs.map nD) (some 1) none)) = _
    have e : cut (D.str s :: vs.map nD) (some 1) none = vs.map nD := by
      unfold cut
      have e0 : HT.sIx (D.str s :: vs.map nD).length 0 (some 1) = 1 := by
        rw [show (1 : Int) = ((1 : Nat) : Int) from rfl, HT.sIx_nat]
        simp
      have e1 : HT.sIx (D.str s :: vs.map nD).length (D.str s :: vs.map nD).length none = (D.str s :: vs.map nD).length := rfl
      rw [e0, e1]
      have l : (vs.map nD).length = vs.length := List.length_map _
      simp only [List.drop_succ_cons, List.drop_zero, List.length_cons, Nat.add_sub_cancel]
      exact List.take_of_length_le (by omega)
    rw [e]
  have q7 := values_t ha hz
  unfold m_is_deed
  rw [fn2]
  unfold b_is_deed
  generalize D.tup (.str s :: vs.map nD) = X at *
  generalize D.tup (vs.map nD) = T at *
  generalize nD k = K' at *
  simp [var, slc_eq, bnd_none, bnd_some, q1, q2, q3, q4, q5, q6, q7, hs, ht, hl]
theorem deed_count {p r k : Nat} {ps : List Nat} (hp : p = 2 ∨ p = 3 ∨ p = 5) (hr : r < p) (h1 : 1 ≤ ps.length) (h4 : ps.length ≤ 4) (ha : ∀ a ∈ ps, a < k) : m_is_deed [(Deed.count p r ps).d, nD k] = .ok (.bl true) := by
  have q := count_deed_ok hp hr h1 h4 ha
  have q1 : oisi CS [.tup] (Deed.count p r ps).d = .ok (.bl true) := rfl
  have q2 : truthy (Deed.count p r ps).d = .ok true := rfl
  have q3 : oidx (Deed.count p r ps).d (.int 0) = .ok (.str "count") := rfl
  have q4 : oisi CS [.str] (.str "count") = .ok (.bl true) := rfl
  have q5 : oeq (.str "count") (.str "count") = .ok (.bl true) := rfl
  unfold m_is_deed
  rw [fn2]
  unfold b_is_deed
  generalize (Deed.count p r ps).d = X at *
  generalize nD k = K' at *
  simp [var, q, q1, q2, q3, q4, q5]
theorem is_deed_ok {k : Nat} {x : Deed} (h : x.ok k) : m_is_deed [x.d, nD k] = .ok (.bl true) := by
  cases x with
  | zero => exact deed_plain (s := "zero") (vs := []) rfl rfl rfl (by simp) (by simp)
  | ones => exact deed_plain (s := "ones") (vs := []) rfl rfl rfl (by simp) (by simp)
  | inv a => exact deed_plain (s := "not") (vs := [a]) rfl rfl rfl (by simpa [Deed.ok] using h) (by simp)
  | and a b => exact deed_plain (s := "and") (vs := [a, b]) rfl rfl rfl (by simpa [Deed.ok] using h) (by simp)
  | or a b => exact deed_plain (s := "or") (vs := [a, b]) rfl rfl rfl (by simpa [Deed.ok] using h) (by simp)
  | xor a b => exact deed_plain (s := "xor") (vs := [a, b]) rfl rfl rfl (by simpa [Deed.ok] using h) (by simp)
  | shift a => exact deed_plain (s := "shift") (vs := [a]) rfl rfl rfl (by simpa [Deed.ok] using h) (by simp)
  | minus a => exact deed_plain (s := "minus") (vs := [a]) rfl rfl rfl (by simpa [Deed.ok] using h) (by simp)
  | add a b => exact deed_plain (s := "add") (vs := [a, b]) rfl rfl rfl (by simpa [Deed.ok] using h) (by simp)
  | sub a b => exact deed_plain (s := "sub") (vs := [a, b]) rfl rfl rfl (by simpa [Deed.ok] using h) (by simp)
  | count p r ps => exact deed_count h.1 h.2.1 h.2.2.1 h.2.2.2.1 h.2.2.2.2
theorem Row.snoc {n : Nat} {xs : List Deed} {x : Deed} (hr : Row n xs) (hx : x.ok (n + xs.length)) : Row n (xs ++ [x]) := fun k hk => by
  by_cases h : k < xs.length
  · rw [List.getElem_append_left h]
    exact hr k h
  · have e : k = xs.length := by
      simp at hk
      omega
    subst e
    simpa using hx
/-! ### a row from a list of deeds -/
theorem row_loop_l {n : Nat} {xs : List Deed} (hr : Row n xs) {S I O T T0 : D} (hI : I = nD n) : ∃ e', forL (forB (gtup [(gnm 5), (gnm 6)]) (Py.ite (notT (tst (call m_is_deed (argC (var 6) (argC (bin oadd (var 1) (var 5)) argN))))) (rais "InvalidRow" ["part", "place"] (argC (cst (.str "deeds")) (argC (var 5) argN))) skip)) (enumL 0 (xs.map Deed.d)) [some S, some I, some T0, some O, some T, none, none] = .ok (.next e') ∧
    ∃ o5 o6, e' = [some S, some I, some T0, some O, some T, o5, o6] := by
  refine forL_inv (fun k e => ∃ o5 o6, e = [some S, some I, some T0, some O, some T, o5, o6]) 0 ⟨none, none, rfl⟩ ?_
  rintro k e hk ⟨o5, o6, rfl⟩
  have hk2 : k < xs.length := by
    rw [enum_len, List.length_map] at hk
    exact hk
  have q := is_deed_ok (hr k hk2)
  have q2 : oadd I (.int (k : Int)) = .ok (nD (n + k)) := by
    rw [hI]
    unfold nD
    rw [oadd_ii]
    simp
  rw [enum_at hk (by simpa using hk2), List.getElem_map, Nat.zero_add]
  generalize nD (n + k) = Z at *
  generalize hX : xs[k].d = X at *
  generalize (k : Int) = z at *
  exact ⟨[some S, some I, some T0, some O, some T, some (.int z), some X], by simp [var, gtup, gtupL, q, q2], _, _, rfl⟩
theorem row_made_l {n out : Nat} {xs : List Deed} (h1 : 1 ≤ n) (h3 : n ≤ 3) (hr : Row n xs) (ho : out < n + xs.length) : m_Row [nD n, .lst (xs.map Deed.d), nD out] = .ok (rowD n xs out) := by
  have q1 := inputs_ok h1 h3
  have q2 := as_tup (xs.map Deed.d)
  have q3 : oisN (.tup (xs.map Deed.d)) = .ok (.bl false) := rfl
  obtain ⟨e', q4, o5, o6, rfl⟩ := row_loop_l (S := .ins "Row" []) (O := nD out) (T := .tup (xs.map Deed.d)) (T0 := .lst (xs.map Deed.d)) hr (I := nD n) rfl
  have q5 := is_below_ok out (n + xs.length)
  rw [decide_eq_true ho] at q5
  have q6 : oadd (nD n) (.int ((xs.map Deed.d).length : Int)) = .ok (nD (n + xs.length)) := by
    unfold nD
    rw [oadd_ii, List.length_map]
    simp
  have q7 : ienum (var 4) [some (.ins "Row" []), some (nD n), some (.lst (xs.map Deed.d)), some (nD out), some (.tup (xs.map Deed.d)), none, none] = .ok (enumL 0 (xs.map Deed.d)) := rfl
  have key : b_Row_init [some (.ins "Row" []), some (nD n), some (.lst (xs.map Deed.d)), some (nD out), none, none, none] = .ok (.next [some (rowD n xs out), some (nD n), some (.lst (xs.map Deed.d)), some (nD out), some (.tup (xs.map Deed.d)), o5, o6]) := by
    unfold b_Row_init rowD
    generalize xs.map Deed.d = Z at *
    generalize nD (n + xs.length) = M at *
    generalize nD n = N at *
    generalize nD out = U at *
    simp [var, q1, q2, q3, q4, q5, q6, q7, setF, putF]
  exact made_eq rfl key
end Py.U
/-! Words, lines, numbers as words. No program in sight. -/
namespace Py.U
open PySem
theorem chr_inj {a b : Char} (h : a.toNat = b.toNat) : a = b := Char.ext (UInt32.toNat_inj.mp h)
theorem str_ext {a b : String} (h : a.toList = b.toList) : a = b := String.toList_inj.mp h
/-! ### a number's word -/
def nS (n : Nat) : String := toString ((n : Nat) : Int)
theorem nS_codes (n : Nat) : (nS n).toList.map Char.toNat = TL.numL n := by
  have h := TL.tl_num n
  rw [TL.tl_ofString] at h
  exact h
theorem nS_digit {n : Nat} : ∀ c ∈ (nS n).toList, 48 ≤ c.toNat ∧ c.toNat ≤ 57 := fun c hc => by
  have h : c.toNat ∈ TL.numL n := by
    rw [← nS_codes]
    exact List.mem_map_of_mem hc
  exact TL.numL_digits n _ h
theorem nS_ne (n : Nat) : (nS n).toList ≠ [] := fun h => by
  have := nS_codes n
  rw [h] at this
  exact TL.numL_ne n this.symm
theorem nS_val (n : Nat) : dgV (nS n).toList = n := by
  have h := TL.numL_val n
  rw [← nS_codes] at h
  unfold NumText.digitsVal at h
  rw [List.foldl_map] at h
  exact h
theorem nS_len {n : Nat} (h : n < 1000000) : (nS n).length ≤ 6 := by
  have l := TL.numL_len (n := n) (k := 6) (by decide) h
  rw [← nS_codes, List.length_map] at l
  exact l
theorem nS_pos (n : Nat) : 1 ≤ (nS n).length := by
  have := nS_ne n
  rw [← String.length_toList]
  cases h : (nS n).toList with
  | nil => exact absurd h this
  | cons a r => simp
theorem nS_dgs (n : Nat) : dgs (nS n).toList = true := by
  unfold dgs
  rw [Bool.and_eq_true]
  refine ⟨?_, List.all_eq_true.mpr fun c hc => ?_⟩
  · cases h : (nS n).toList with
    | nil => exact absurd h (nS_ne n)
    | cons a r => rfl
  · have := nS_digit c hc
    simp [this]
theorem nS_in {n : Nat} : ∀ c ∈ (nS n).toList, c ∈ ("0123456789" : String).toList := fun c hc => by
  obtain ⟨h1, h2⟩ := nS_digit c hc
  have : c.toNat = 48 ∨ c.toNat = 49 ∨ c.toNat = 50 ∨ c.toNat = 51 ∨ c.toNat = 52 ∨ c.toNat = 53 ∨ c.toNat = 54 ∨ c.toNat = 55 ∨ c.toNat = 56 ∨ c.toNat = 57 := by omega
  have key : ∀ d : Char, c.toNat = d.toNat → d ∈ ("0123456789" : String).toList → c ∈ ("0123456789" : String).toList := fun d e hd => by
    rw [chr_inj e]
    exact hd
  rcases this with e | e | e | e | e | e | e | e | e | e
  · exact key '0' e (by decide)
  · exact key '1' e (by decide)
  · exact key '2' e (by decide)
  · exact key '3' e (by decide)
  · exact key '4' e (by decide)
  · exact key '5' e (by decide)
  · exact key '6' e (by decide)
  · exact key '7' e (by decide)
  · exact key '8' e (by decide)
  · exact key '9' e (by decide)
theorem numL_head {n : Nat} (h : n ≠ 0) : ∃ a r, TL.numL n = a :: r ∧ a ≠ 48 := by
  induction n using Nat.strongRecOn with
  | ind n ih =>
    by_cases c : n < 10
    · rw [TL.numL_lt c]
      exact ⟨_, _, rfl, by omega⟩
    · obtain ⟨a, r, e, ha⟩ := ih (n / 10) (by omega) (by omega)
      rw [TL.numL_step (by omega), e]
      exact ⟨a, _, rfl, ha⟩
theorem nS_head {n : Nat} (h : n ≠ 0) : ∃ a r, (nS n).toList = a :: r ∧ a ≠ '0' := by
  obtain ⟨a, r, e, ha⟩ := numL_head h
  rw [← nS_codes] at e
  cases q : (nS n).toList with
  | nil => exact absurd q (nS_ne n)
  | cons b s =>
    rw [q] at e
    refine ⟨b, s, rfl, fun z => ha ?_⟩
    subst z
    have := (List.cons.inj e).1
    rw [← this]
    rfl
theorem nS_zero : nS 0 = "0" := by
  apply str_ext
  have h := nS_codes 0
  rw [TL.numL_lt (by decide)] at h
  cases q : (nS 0).toList with
  | nil => exact absurd q (nS_ne 0)
  | cons b s =>
    rw [q] at h
    obtain ⟨h1, h2⟩ := List.cons.inj h
    have hs : s = [] := List.map_eq_nil_iff.mp h2
    subst hs
    have hb : b = '0' := chr_inj (h1.trans (by decide))
    rw [hb]
    rfl
/-! ### join, split -/
def J (c : Char) (ws : List String) : String := String.ofList (jnC [c] (ws.map String.toList))
theorem J_toList (c : Char) (ws : List String) : (J c ws).toList = jnC [c] (ws.map String.toList) := String.toList_ofList
theorem sum_le {ws : List String} {L : Nat} (h : ∀ w ∈ ws, w.length ≤ L) : (ws.map String.length).sum ≤ ws.length * L := by
  induction ws with
  | nil => simp
  | cons a r ih =>
    have h1 := h a List.mem_cons_self
    have h2 := ih fun w hw => h w (List.mem_cons_of_mem _ hw)
    simp only [List.map_cons, List.sum_cons, List.length_cons, Nat.add_mul, Nat.one_mul]
    omega
theorem J_one (c : Char) (w : String) : J c [w] = w := by
  apply str_ext
  rw [J_toList]
  rfl
theorem strs_map : ∀ ws : List String, strsOf (ws.map D.str) = some ws
  | [] => rfl
  | w :: ws => by
    show (strsOf (ws.map D.str)).map (w :: ·) = _
    rw [strs_map ws]
    rfl
theorem split_ok {c : Char} {cs a : String} (hc : cs.toList = [c]) (h8 : c.toNat < 256) (hz : a.length + 2 ≤ SZ) : osplit (.str a) (.str cs) = .ok (.lst (spS c a)) := by
  show (match cs.toList with
    | [c] => if a.length + 2 ≤ SZ ∧ c.toNat < 256 then Res.ok (D.lst (spS c a)) else .stuck
    | _ => .stuck) = _
  rw [hc]
  exact if_pos ⟨hz, h8⟩
/-! ### numbers put into a text -/
theorem ofmt_n {n : Nat} (h : n < 1000000) : ofmt (nD n) = .ok (.str (nS n)) := by
  have l : n.log2 < 1900 := by
    by_cases h0 : n = 0
    · subst h0
      decide
    · have : n.log2 < 20 := (Nat.log2_lt h0).mpr (by omega)
      omega
  show (if ((n : Nat) : Int).natAbs.log2 < 1900 then Res.ok (D.str (toString ((n : Nat) : Int))) else .stuck) = _
  rw [Int.natAbs_natCast, if_pos l]
  rfl
theorem bstr_n {n : Nat} (h : n < 1000000) : bstr (nD n) = .ok (.str (nS n)) := ofmt_n h
theorem intx_n {n : Nat} (h : n < 1000000) : bintx (.str (nS n)) = .ok (nD n) := by
  show (if (dgs (nS n).toList && decide ((nS n).length ≤ 640)) = true then Res.ok (D.int ((dgV (nS n).toList : Nat) : Int)) else .stuck) = _
  have := nS_len h
  rw [nS_dgs, decide_eq_true (by omega), nS_val]
  rfl
theorem mtx_eq (f : D → D → Res D) (mo ma : EM) (e : Env) : mtx f mo ma e = (mo e >>= fun s => match s with
  | .str _ => ma e >>= fun y => f s y
  | _ => .stuck) := rfl
end Py.U
/-! Words that are numbers or not; texts cut anywhere. No program in sight. -/
namespace Py.U
open PySem
/-! ### words that are numbers -/
theorem dgV_snoc (r : List Char) (c : Char) : dgV (r ++ [c]) = dgV r * 10 + (c.toNat - 48) := by
  unfold dgV
  rw [List.foldl_append]
  rfl
theorem snoc_of {α : Type} : ∀ {l : List α}, l ≠ [] → ∃ r c, l = r ++ [c]
  | [], h => absurd rfl h
  | [x], _ => ⟨[], x, rfl⟩
  | x :: y :: r, _ => by
    obtain ⟨r2, c, e⟩ := snoc_of (l := y :: r) (by simp)
    exact ⟨x :: r2, c, by rw [e]; rfl⟩
theorem canon : ∀ (n : Nat) (l : List Char), l.length = n → l ≠ [] → (∀ c ∈ l, 48 ≤ c.toNat ∧ c.toNat ≤ 57) → (l.head? = some '0' → l = ['0']) → TL.numL (dgV l) = l.map Char.toNat
  | 0, l, hl, hn, _, _ => absurd (List.length_eq_zero_iff.mp hl) hn
  | n + 1, l, hl, hn, hd, h0 => by
    obtain ⟨r, c, rfl⟩ := snoc_of hn
    have hc := hd c (by simp)
    rw [dgV_snoc]
    by_cases hr : r = []
    · subst hr
      have : dgV ([] : List Char) = 0 := rfl
      rw [this, TL.numL_lt (by omega)]
      show [48 + (0 * 10 + (c.toNat - 48))] = [c.toNat]
      congr 1
      omega
    · have hh : r.head? ≠ some '0' := fun z => by
        have e := h0 (by
          cases r with
          | nil => exact absurd rfl hr
          | cons a s => exact z)
        have := congrArg List.length e
        cases r with
        | nil => exact absurd rfl hr
        | cons a s => simp at this
      have ih := canon n r (by simp at hl; exact hl) hr (fun d hd2 => hd d (List.mem_append_left _ hd2)) (fun z => absurd z hh)
      have h1 : dgV r ≠ 0 := fun z => by
        rw [z, TL.numL_lt (by decide)] at ih
        cases r with
        | nil => exact absurd rfl hr
        | cons a s =>
          have := (List.cons.inj ih).1
          have ha : a = '0' := chr_inj (this.symm.trans (by decide))
          exact hh (by rw [ha]; rfl)
      rw [TL.numL_step (by omega), List.map_append, ← ih]
      have e1 : (dgV r * 10 + (c.toNat - 48)) / 10 = dgV r := by omega
      have e2 : 48 + (dgV r * 10 + (c.toNat - 48)) % 10 = c.toNat := by omega
      rw [e1, e2]
      rfl
theorem dgV_lt : ∀ (n : Nat) (l : List Char), l.length = n → (∀ c ∈ l, 48 ≤ c.toNat ∧ c.toNat ≤ 57) → dgV l < 10 ^ n
  | 0, l, hl, _ => by
    rw [List.length_eq_zero_iff.mp hl]
    show 0 < 10 ^ 0
    decide
  | n + 1, l, hl, hd => by
    obtain ⟨r, c, rfl⟩ := snoc_of (l := l) (fun z => by rw [z] at hl; simp at hl)
    have hc := hd c (by simp)
    have ih := dgV_lt n r (by simp at hl; exact hl) fun d h => hd d (List.mem_append_left _ h)
    rw [dgV_snoc, Nat.pow_succ]
    omega
abbrev D10 : String := "0123456789"
theorem d10 {c : Char} (h : c ∈ D10.toList) : 48 ≤ c.toNat ∧ c.toNat ≤ 57 := by
  have : ∀ c ∈ D10.toList, 48 ≤ c.toNat ∧ c.toNat ≤ 57 := by decide
  exact this c h
/-- a word's number -/
def pn (s : String) : Option Nat :=
  if (1 ≤ s.length ∧ s.length ≤ 6) ∧ (∀ c ∈ s.toList, c ∈ D10.toList) ∧ (s.toList.head? = some '0' → s = "0") then some (dgV s.toList) else none
theorem pn_some {s : String} {a : Nat} (h : pn s = some a) : s = nS a ∧ a < 1000000 := by
  unfold pn at h
  split at h
  · rename_i q
    obtain ⟨⟨q1, q2⟩, q3, q4⟩ := q
    cases h
    have hd : ∀ c ∈ s.toList, 48 ≤ c.toNat ∧ c.toNat ≤ 57 := fun c hc => d10 (q3 c hc)
    have hl : s.toList.length = s.length := String.length_toList
    have cn := canon s.toList.length s.toList rfl (fun z => by rw [z] at hl; simp at hl; omega) hd (fun z => by rw [q4 z]; rfl)
    refine ⟨str_ext ?_, ?_⟩
    · rw [← nS_codes] at cn
      have inj : ∀ {a b : List Char}, a.map Char.toNat = b.map Char.toNat → a = b := fun {a b} h => by
        induction a generalizing b with
        | nil => exact (List.map_eq_nil_iff.mp h.symm).symm
        | cons x r ih =>
          cases b with
          | nil => simp at h
          | cons y s =>
            obtain ⟨h1, h2⟩ := List.cons.inj h
            rw [chr_inj h1, ih h2]
      exact (inj cn).symm
    · have := dgV_lt s.toList.length s.toList rfl hd
      have q := Nat.pow_le_pow_right (n := 10) (by decide) (show s.toList.length ≤ 6 by omega)
      exact Nat.lt_of_lt_of_le this q
  · cases h
theorem pn_nS {a : Nat} (h : a < 1000000) : pn (nS a) = some a := by
  unfold pn
  rw [if_pos, nS_val]
  refine ⟨⟨nS_pos a, nS_len h⟩, nS_in, fun z => ?_⟩
  by_cases h0 : a = 0
  · rw [h0, nS_zero]
  · obtain ⟨b, r, e, hb⟩ := nS_head h0
    rw [e] at z
    exact absurd (Option.some.inj z) hb
def pns : List String → Option (List Nat)
  | [] => some []
  | w :: r => match pn w, pns r with
    | some a, some ns => some (a :: ns)
    | _, _ => none
theorem pns_some : ∀ {ws : List String} {ns : List Nat}, pns ws = some ns → ws = ns.map nS ∧ ∀ a ∈ ns, a < 1000000
  | [], ns, h => by
    cases h
    exact ⟨rfl, fun a ha => nomatch ha⟩
  | w :: r, ns, h => by
    unfold pns at h
    split at h
    · rename_i a ms h1 h2
      cases h
      obtain ⟨e1, l1⟩ := pn_some h1
      obtain ⟨e2, l2⟩ := pns_some h2
      refine ⟨by rw [List.map_cons, ← e1, ← e2], fun x hx => ?_⟩
      rcases List.mem_cons.mp hx with rfl | hx
      · exact l1
      · exact l2 x hx
    · cases h
theorem pns_none : ∀ {ws : List String}, pns ws = none → ∃ w ∈ ws, pn w = none
  | [], h => nomatch h
  | w :: r, h => by
    cases h1 : pn w with
    | none => exact ⟨w, List.mem_cons_self, h1⟩
    | some a =>
      cases h2 : pns r with
      | none =>
        obtain ⟨v, hv, e⟩ := pns_none h2
        exact ⟨v, List.mem_cons_of_mem _ hv, e⟩
      | some ns =>
        unfold pns at h
        rw [h1, h2] at h
        cases h
theorem pns_len : ∀ {ws : List String} {ns : List Nat}, pns ws = some ns → ns.length = ws.length := fun h => by
  obtain ⟨e, _⟩ := pns_some h
  rw [e, List.length_map]
theorem pns_all : ∀ {ws : List String}, (∀ w ∈ ws, pn w ≠ none) → ∃ ns, pns ws = some ns := fun {ws} h => by
  cases q : pns ws with
  | some ns => exact ⟨ns, rfl⟩
  | none =>
    obtain ⟨w, hw, e⟩ := pns_none q
    exact absurd e (h w hw)
/-! ### texts cut -/
def spL (c : Char) (t : String) : List String := (spC c t.toList).map String.ofList
theorem spS_L (c : Char) (t : String) : spS c t = (spL c t).map D.str := by
  unfold spS spL
  rw [List.map_map]
  rfl
theorem spC_ne2 (c : Char) : ∀ l : List Char, spC c l ≠ []
  | [] => by simp [spC]
  | x :: r => by
    unfold spC
    split
    · simp
    · split <;> simp
theorem spL_ne (c : Char) (t : String) : spL c t ≠ [] := fun h => spC_ne2 c _ (List.map_eq_nil_iff.mp h)
theorem spC_back (c : Char) : ∀ l : List Char, jnC [c] (spC c l) = l ∧ ∀ p ∈ spC c l, c ∉ p
  | [] => ⟨rfl, fun p hp => by
    have : p = [] := by simpa [spC] using hp
    rw [this]
    simp⟩
  | x :: r => by
    obtain ⟨h1, h2⟩ := spC_back c r
    by_cases h : x = c
    · have e : spC c (x :: r) = [] :: spC c r := if_pos h
      rw [e]
      refine ⟨?_, fun p hp => ?_⟩
      · cases q : spC c r with
        | nil => exact absurd q (spC_ne2 c r)
        | cons p ps =>
          rw [q] at h1
          show [] ++ ([c] ++ jnC [c] (p :: ps)) = _
          rw [h1, h]
          rfl
      · rcases List.mem_cons.mp hp with rfl | hp
        · simp
        · exact h2 p hp
    · have e : spC c (x :: r) = (match spC c r with
        | [] => [[x]]
        | p :: ps => (x :: p) :: ps) := if_neg h
      rw [e]
      cases q : spC c r with
      | nil => exact absurd q (spC_ne2 c r)
      | cons p ps =>
        rw [q] at h1 h2
        dsimp only
        refine ⟨?_, fun z hz => ?_⟩
        · cases ps with
          | nil =>
            show x :: p = _
            rw [show p = r from h1]
          | cons p2 ps =>
            show x :: p ++ ([c] ++ jnC [c] (p2 :: ps)) = _
            rw [← h1]
            rfl
        · rcases List.mem_cons.mp hz with rfl | hz
          · intro z
            rcases List.mem_cons.mp z with z | z
            · exact h z.symm
            · exact h2 p List.mem_cons_self z
          · exact h2 z (List.mem_cons_of_mem _ hz)
theorem J_spL (c : Char) (t : String) : J c (spL c t) = t := by
  apply str_ext
  rw [J_toList]
  unfold spL
  rw [List.map_map]
  have : (spC c t.toList).map (String.toList ∘ String.ofList) = spC c t.toList := by
    conv => rhs; rw [← List.map_id (spC c t.toList)]
    exact List.map_congr_left fun l _ => String.toList_ofList
  rw [this]
  exact (spC_back c t.toList).1
def totL (ls : List String) : Nat := (ls.map fun w => w.length + 1).sum
theorem tot_cons (w : String) (ls : List String) : totL (w :: ls) = w.length + 1 + totL ls := rfl
theorem tot_app (a b : List String) : totL (a ++ b) = totL a + totL b := by
  unfold totL
  rw [List.map_append, List.sum_append]
theorem tot_len (ls : List String) : ls.length ≤ totL ls := by
  induction ls with
  | nil => exact Nat.le_refl 0
  | cons w r ih =>
    rw [tot_cons, List.length_cons]
    omega
theorem tot_mem {w : String} {ls : List String} (h : w ∈ ls) : w.length + 1 ≤ totL ls := by
  induction ls with
  | nil => cases h
  | cons v r ih =>
    rw [tot_cons]
    rcases List.mem_cons.mp h with rfl | h
    · omega
    · have := ih h
      omega
theorem tot_td (ls : List String) (k : Nat) : totL (ls.take k) + totL (ls.drop k) = totL ls := by
  rw [← tot_app, List.take_append_drop]
theorem tot_set {ls : List String} {k : Nat} {v : String} (hk : k < ls.length) : totL (ls.set k v) + (ls[k].length + 1) = totL ls + (v.length + 1) := by
  induction ls generalizing k with
  | nil => simp at hk
  | cons w r ih =>
    cases k with
    | zero =>
      show totL (v :: r) + _ = _
      rw [tot_cons, tot_cons]
      simp
      omega
    | succ k =>
      have := ih (k := k) (by simpa using hk)
      show totL (w :: r.set k v) + _ = _
      rw [tot_cons, tot_cons]
      simp
      omega
theorem J_tot (c : Char) : ∀ ls : List String, (J c ls).length ≤ totL ls ∧ (ls ≠ [] → (J c ls).length + 1 = totL ls)
  | [] => ⟨Nat.zero_le _, fun h => absurd rfl h⟩
  | [w] => by
    rw [J_one, tot_cons]
    exact ⟨by omega, fun _ => rfl⟩
  | w :: v :: r => by
    have ih := (J_tot c (v :: r)).2 (by simp)
    have e : (J c (w :: v :: r)).length = w.length + (1 + (J c (v :: r)).length) := by
      rw [← String.length_toList, J_toList]
      show (w.toList ++ ([c] ++ jnC [c] ((v :: r).map String.toList))).length = _
      rw [List.length_append, List.length_append, ← J_toList, String.length_toList, String.length_toList]
      rfl
    rw [tot_cons, e]
    exact ⟨by omega, fun _ => by omega⟩
theorem tot_spL (c : Char) (t : String) : totL (spL c t) = t.length + 1 := by
  have := (J_tot c (spL c t)).2 (spL_ne c t)
  rw [J_spL] at this
  exact this.symm
theorem sum_tot (ls : List String) : (ls.map String.length).sum + ls.length = totL ls := by
  induction ls with
  | nil => rfl
  | cons w r ih =>
    rw [tot_cons, List.map_cons, List.sum_cons, List.length_cons]
    omega
theorem join_tot {c : Char} {cs : String} (hc : cs.toList = [c]) {ws : List String} (hz : totL ws ≤ SZ) : joinL9 cs (ws.map D.str) = .ok (.str (J c ws)) := by
  have s := sum_tot ws
  have l1 : cs.length = 1 := by rw [← String.length_toList, hc]; rfl
  have ok : joinOk cs ws = true := by
    unfold joinOk
    rw [decide_eq_true_eq, l1]
    omega
  unfold joinL9
  rw [strs_map]
  show (if joinOk cs ws = true then Res.ok (jnS cs ws) else .stuck) = _
  rw [if_pos ok]
  unfold jnS J
  rw [hc]
theorem split_L {c : Char} {cs a : String} (hc : cs.toList = [c]) (h8 : c.toNat < 256) (hz : a.length + 2 ≤ SZ) : osplit (.str a) (.str cs) = .ok (.lst ((spL c a).map D.str)) := by
  rw [split_ok hc h8 hz, spS_L]
end Py.U
namespace Py.U
open PySem
theorem line_ok {r : List Nat} {L B : Nat} (hl : r.length = L) (hb : ∀ x ∈ r, x < B) (hz : L ≤ 1000) : m_is_line [rD r, nD L, nD B] = .ok (.bl true) := by
  have h1 : oisi CS [.tup] (rD r) = .ok (.bl true) := rfl
  have h2 : blen (rD r) = .ok (nD L) := by
    unfold rD
    rw [blen_t, List.length_map, hl]
    rfl
  have h3 : Py.one (nD L) (nD L) = .ok (.bl false) := by
    unfold nD
    rw [one_ii]
    simp
  have hc : lcE (iseq (var 0)) [3] (gnm 3) yes (call m_is_below (argC (var 3) (argC (var 2) argN))) [some (rD r), some (nD L), some (nD B), none] = .ok (.lst (r.map fun _ => .bl true)) := by
    refine lc_mapI (k := nD) (by simp [var, rD]) (by rw [hl]; exact le_sz hz) fun a ha => ?_
    have q := is_below_ok a B
    rw [decide_eq_true (hb a ha)] at q
    generalize nD a = A at *
    generalize nD B = N at *
    exact ⟨_, rfl, by simp only [wipe]; simp [var, q]⟩
  have hb2 : ball (.lst (r.map fun _ => .bl true)) = .ok (.bl true) := by
    have := ball_bools (r.map fun _ => true)
    rw [List.map_map] at this
    refine this.trans ?_
    rw [show (r.map fun _ => true).all id = true by simp]
  unfold m_is_line
  rw [fn3]
  unfold b_is_line
  generalize D.lst (r.map fun _ => .bl true) = Z at *
  generalize rD r = R at *
  generalize nD L = l at *
  generalize nD B = b at *
  simp [var, h1, h2, h3, hc, hb2]
theorem nexts_ok {S L : Nat} {nx : List (List Nat)} (h : Tbl S L S nx) (hS : 0 < S) (hz : S ≤ 100000) (hL : L ≤ 1000) : m_right_nexts [.lst (nx.map rD), nD L] = .ok (.tup (nx.map rD)) := by
  have q1 := as_tup (nx.map rD)
  have q2 : truthy (.tup (nx.map rD)) = .ok true := by
    cases hx : nx with
    | nil =>
      have := h.len
      rw [hx] at this
      simp at this
      omega
    | cons a b => simp [truthy]
  have q3 : blen (.tup (nx.map rD)) = .ok (nD S) := by
    rw [blen_t, List.length_map, h.len]
    rfl
  have loop : ∃ e', forL (forB (gtup [(gnm 3), (gnm 4)]) (Py.ite (notT (tst (call m_is_line (argC (var 4) (argC (var 1) (argC (un blen (var 2)) argN)))))) (rais "InvalidMachine" ["part", "place"] (argC (cst (.str "nexts")) (argC (var 3) argN))) skip)) (enumL 0 (nx.map rD)) [some (.lst (nx.map rD)), some (nD L), some (.tup (nx.map rD)), none, none] = .ok (.next e') ∧ ∃ o3 o4, e' = [some (.lst (nx.map rD)), some (nD L), some (.tup (nx.map rD)), o3, o4] := by
    refine forL_inv (fun k e => ∃ o3 o4, e = [some (.lst (nx.map rD)), some (nD L), some (.tup (nx.map rD)), o3, o4]) 0 ⟨none, none, rfl⟩ ?_
    rintro k e hk ⟨o3, o4, rfl⟩
    have hk2 : k < nx.length := by
      rw [enum_len, List.length_map] at hk
      exact hk
    obtain ⟨h1, h2⟩ := h.row nx[k] (List.getElem_mem hk2)
    have q := line_ok h1 h2 hL
    rw [enum_at hk (by simpa using hk2), List.getElem_map, Nat.zero_add]
    generalize (k : Int) = z at *
    generalize rD nx[k] = R at *
    generalize nx.map rD = NX at *
    generalize nD L = l at *
    generalize nD S = s at *
    exact ⟨[some (.lst NX), some l, some (.tup NX), some (.int z), some R], by simp [var, gtup, gtupL, q, q3], _, _, rfl⟩
  obtain ⟨e', q4, o3, o4, rfl⟩ := loop
  have q5 : ienum (var 2) [some (.lst (nx.map rD)), some (nD L), some (.tup (nx.map rD)), none, none] = .ok (enumL 0 (nx.map rD)) := rfl
  unfold m_right_nexts
  rw [fn2]
  unfold b_right_nexts
  generalize hNX : nx.map rD = NX at *
  generalize nD L = l at *
  generalize enumL 0 NX = E at *
  simp [var, q1, q2, q4, q5]
theorem outs_ok {S L : Nat} {os : List (List Nat)} (h : Tbl S L 2 os) (hz : S ≤ 100000) (hL : L ≤ 1000) : m_right_outs [.lst (os.map rD), nD L, nD S] = .ok (.tup (os.map rD)) := by
  have q1 := as_tup (os.map rD)
  have q2 : oisN (.tup (os.map rD)) = .ok (.bl false) := rfl
  have q3 : blen (.tup (os.map rD)) = .ok (nD S) := by
    rw [blen_t, List.length_map, h.len]
    rfl
  have q4 : bmin2 (nD S) (nD S) = .ok (nD S) := by
    unfold nD bmin2
    simp
  have q5 : Py.one (nD S) (nD S) = .ok (.bl false) := by
    unfold nD
    rw [one_ii]
    simp
  have loop : ∃ e', forL (forB (gnm 5) (Py.ite (notT (tst (call m_is_line (argC (bin oidx (var 3) (var 5)) (argC (var 1) (argC (cst (.int 2)) argN)))))) (rais "InvalidMachine" ["part", "place"] (argC (cst (.str "outs")) (argC (var 5) argN))) skip)) ((List.range S).map fun i => .int ((i : Nat) : Int)) [some (.lst (os.map rD)), some (nD L), some (nD S), some (.tup (os.map rD)), some (nD S), none] = .ok (.next e') ∧ ∃ o5, e' = [some (.lst (os.map rD)), some (nD L), some (nD S), some (.tup (os.map rD)), some (nD S), o5] := by
    refine forR_inv (fun k e => ∃ o5, e = [some (.lst (os.map rD)), some (nD L), some (nD S), some (.tup (os.map rD)), some (nD S), o5]) ⟨none, rfl⟩ ?_
    rintro k e hk ⟨o5, rfl⟩
    have hk2 : k < os.length := by rw [h.len]; exact hk
    obtain ⟨h1, h2⟩ := h.row os[k] (List.getElem_mem hk2)
    have q := line_ok h1 h2 hL
    have q0 : oidx (.tup (os.map rD)) (.int (k : Int)) = .ok (rD os[k]) := oidx_t (k := k) (by simp [hk2])
    change m_is_line [_, _, .int 2] = _ at q
    generalize (k : Int) = z at *
    generalize rD os[k] = R at *
    generalize os.map rD = OS at *
    generalize nD L = l at *
    generalize nD S = s at *
    exact ⟨[some (.lst OS), some l, some s, some (.tup OS), some s, some (.int z)], by simp [var, q, q0], _, rfl⟩
  obtain ⟨e', q6, o5, rfl⟩ := loop
  have hr : irng1 (var 4) [some (.lst (os.map rD)), some (nD L), some (nD S), some (.tup (os.map rD)), some (nD S), none] = .ok ((List.range S).map fun i => .int ((i : Nat) : Int)) := irng1_nat (by simp [var, nD]) (Nat.lt_of_le_of_lt hz (by decide))
  unfold m_right_outs
  rw [fn3]
  unfold b_right_outs
  generalize hOS : os.map rD = OS at *
  generalize nD L = l at *
  generalize nD S = s at *
  simp [var, q1, q2, q3, q4, q5, q6, hr]
theorem mach_made {n S : Nat} {nx os : List (List Nat)} (h1 : 1 ≤ n) (h3 : n ≤ 3) (hn : Tbl S (2 ^ n) S nx) (ho : Tbl S (2 ^ n) 2 os) (hS : 0 < S) (hz : S ≤ 100000) : m_Machine [nD n, .lst (nx.map rD), .lst (os.map rD)] = .ok (macD n nx os) := by
  have hP : 2 ^ n ≤ 8 := by
    have : n = 1 ∨ n = 2 ∨ n = 3 := by omega
    rcases this with rfl | rfl | rfl <;> decide
  have q1 := inputs_ok h1 h3
  have q2 := shl_nD (n := n) (by omega)
  have q3 := nexts_ok hn hS hz (by omega)
  have q4 := outs_ok ho hz (by omega)
  have q5 : blen (.tup (nx.map rD)) = .ok (nD S) := by
    rw [blen_t, List.length_map, hn.len]
    rfl
  have q6 : oattr ["Machine"] "nexts" (.ins "Machine" [("inputs", nD n), ("nexts", .tup (nx.map rD))]) = .ok (.tup (nx.map rD)) := rfl
  have key : b_Machine_init [some (.ins "Machine" []), some (nD n), some (.lst (nx.map rD)), some (.lst (os.map rD)), none] = .ok (.next [some (macD n nx os), some (nD n), some (.lst (nx.map rD)), some (.lst (os.map rD)), some (nD (2 ^ n))]) := by
    unfold b_Machine_init macD
    generalize nx.map rD = NX at *
    generalize os.map rD = OS at *
    generalize nD (2 ^ n) = P at *
    generalize nD n = N at *
    generalize nD S = s at *
    simp [var, q1, q2, q3, q4, q5, q6, setF, putF]
  exact made_eq rfl key
/-! ### the least machine by the program -/
end Py.U
namespace Py.U
open PySem
/-! ### words read as numbers, or not -/
theorem spc : (" " : String).toList = [' '] := by decide
theorem nwl : ("\n" : String).toList = ['\n'] := by decide
theorem cut_from {α : Type} (xs : List α) {k : Nat} (h : k ≤ xs.length) : cut xs (some (k : Int)) none = xs.drop k := by
  unfold cut
  have e0 : HT.sIx xs.length 0 (some (k : Int)) = k := by rw [HT.sIx_nat, Nat.min_eq_left h]
  have e1 : HT.sIx xs.length xs.length none = xs.length := rfl
  rw [e0, e1, List.take_of_length_le (by rw [List.length_drop]; omega)]
theorem slc1 (a : D) (r : List D) : oslc (.lst (a :: r)) (some 1) none = .ok (.lst r) := by
  show Res.ok (D.lst (cut (a :: r) (some ((1 : Nat) : Int)) none)) = _
  rw [cut_from (a :: r) (k := 1) (by simp)]
  rfl
theorem blen_str {s : String} (h : s.length ≤ SZ) : blen (.str s) = .ok (nD s.length) := if_pos h
def oN : Option Nat → D
  | some n => nD n
  | none => .non
def oL : Option (List Nat) → D
  | some ns => .lst (ns.map nD)
  | none => .non
theorem le_n (a b : Nat) : ole (nD a) (nD b) = .ok (.bl (decide (a ≤ b))) := by
  show Res.ok (D.bl (decide ((a : Int) ≤ (b : Int)))) = _
  congr 2
  exact decide_eq_decide.mpr (by omega)
theorem lt_n (a b : Nat) : olt (nD a) (nD b) = .ok (.bl (decide (a < b))) := by
  show Res.ok (D.bl (decide ((a : Int) < (b : Int)))) = _
  congr 2
  exact decide_eq_decide.mpr (by omega)
theorem ge_n (a b : Nat) : oge (nD a) (nD b) = .ok (.bl (decide (b ≤ a))) := by
  show Res.ok (D.bl (decide ((b : Int) ≤ (a : Int)))) = _
  congr 2
  exact decide_eq_decide.mpr (by omega)
theorem gt_n (a b : Nat) : ogt (nD a) (nD b) = .ok (.bl (decide (b < a))) := by
  show Res.ok (D.bl (decide ((b : Int) < (a : Int)))) = _
  congr 2
  exact decide_eq_decide.mpr (by omega)
theorem one_n (a b : Nat) : Py.one (nD a) (nD b) = .ok (.bl (decide (a ≠ b))) := by
  unfold nD
  rw [one_ii]
  by_cases h : a = b
  · simp [h]
  · have : ¬ (a : Int) = (b : Int) := by omega
    simp [h, this]
theorem idx0 {s : String} {a : Char} {r : List Char} (q : s.toList = a :: r) (h : s.length ≤ SZ) : oidx (.str s) (.int 0) = .ok (.str (String.ofList [a])) := by
  show (if s.length ≤ SZ then opt ((L2.atI s.toList 0).map fun c => D.str (String.ofList [c])) else .stuck) = _
  rw [if_pos h, q]
  have := atI_nat (xs := a :: r) (k := 0) (by simp)
  change L2.atI (a :: r) 0 = _ at this
  rw [this]
  rfl
theorem sgn_eq (a : Char) : (String.ofList [a] == "0") = decide (a = '0') := by
  by_cases h : a = '0'
  · subst h
    decide
  · rw [decide_eq_false h, beq_eq_false_iff_ne]
    intro z
    have := congrArg String.toList z
    rw [String.toList_ofList] at this
    exact h ((List.cons.inj (this.trans (show ("0" : String).toList = ['0'] by decide))).1)
theorem in_d10 (c : Char) : oinS (.str (String.ofList [c])) (.str "0123456789") = .ok (.bl (decide (c ∈ D10.toList))) := by
  show (match (String.ofList [c]).toList with
    | [c] => Res.ok (D.bl (decide (c ∈ ("0123456789" : String).toList)))
    | _ => .stuck) = _
  rw [String.toList_ofList]
theorem nin_d10 (c : Char) : onotinS (.str (String.ofList [c])) (.str "0123456789") = .ok (.bl (!decide (c ∈ D10.toList))) := by
  show (match (String.ofList [c]).toList with
    | [c] => Res.ok (D.bl (!decide (c ∈ ("0123456789" : String).toList)))
    | _ => .stuck) = _
  rw [String.toList_ofList]
theorem intx_d {s : String} (h1 : 1 ≤ s.length) (h6 : s.length ≤ 6) (hd : ∀ c ∈ s.toList, c ∈ D10.toList) : bintx (.str s) = .ok (nD (dgV s.toList)) := by
  have ok : (dgs s.toList && decide (s.length ≤ 640)) = true := by
    rw [Bool.and_eq_true, decide_eq_true_eq]
    refine ⟨?_, by omega⟩
    unfold dgs
    rw [Bool.and_eq_true]
    refine ⟨?_, List.all_eq_true.mpr fun c hc => ?_⟩
    · cases q : s.toList with
      | nil =>
        rw [← String.length_toList, q] at h1
        simp at h1
      | cons a r => rfl
    · have := d10 (hd c hc)
      simp [this]
  show (if (dgs s.toList && decide (s.length ≤ 640)) = true then Res.ok (D.int (dgV s.toList : Nat)) else .stuck) = _
  rw [if_pos ok]
  rfl
theorem cons_of {s : String} (h : 1 ≤ s.length) : ∃ a r, s.toList = a :: r := by
  cases q : s.toList with
  | nil =>
    rw [← String.length_toList, q] at h
    simp at h
  | cons a r => exact ⟨a, r, rfl⟩
/-- what makes a word a number -/
theorem pn_no {s : String} {a : Char} {r : List Char} (q : s.toList = a :: r) (h : (a = '0' ∧ s ≠ "0") ∨ ¬ (∀ c ∈ s.toList, c ∈ D10.toList)) : pn s = none := by
  unfold pn
  rw [if_neg]
  rintro ⟨_, h2, h3⟩
  rcases h with h | h
  · exact h.2 (h3 (by rw [q, h.1]; rfl))
  · exact h h2
theorem pn_yes {s : String} {a : Char} {r : List Char} (q : s.toList = a :: r) (h6 : s.length ≤ 6) (hz : ¬ (a = '0' ∧ s ≠ "0")) (hd : ∀ c ∈ s.toList, c ∈ D10.toList) : pn s = some (dgV s.toList) := by
  have h1 : 1 ≤ s.length := by
    rw [← String.length_toList, q]
    simp
  unfold pn
  rw [if_pos]
  refine ⟨⟨h1, h6⟩, hd, fun z => ?_⟩
  rw [q] at z
  have ha : a = '0' := Option.some.inj z
  exact Classical.byContradiction fun w => hz ⟨ha, w⟩
theorem pn_long {s : String} (h : ¬ (1 ≤ s.length ∧ s.length ≤ 6)) : pn s = none := by
  unfold pn
  rw [if_neg]
  rintro ⟨q, _⟩
  exact h q
theorem ball_bs (bs : List Bool) : ball (.lst (bs.map D.bl)) = .ok (.bl (bs.all id)) := ball_bools bs
theorem plain_gen {s : String} (hs : s.length ≤ SZ) : m_plain_number [.str s, .int 6] = .ok (oN (pn s)) := by
  have bl := blen_str hs
  have c1 : ole (.int 1) (nD s.length) = .ok (.bl (decide (1 ≤ s.length))) := le_n 1 s.length
  have c2 : ole (nD s.length) (.int 6) = .ok (.bl (decide (s.length ≤ 6))) := le_n s.length 6
  unfold m_plain_number
  rw [fn2]
  unfold b_plain_number
  by_cases h1 : 1 ≤ s.length
  · by_cases h6 : s.length ≤ 6
    · rw [decide_eq_true h1] at c1
      rw [decide_eq_true h6] at c2
      obtain ⟨a, r, q⟩ := cons_of h1
      have i0 := idx0 q hs
      have e0 : oeq (.str (String.ofList [a])) (.str "0") = .ok (.bl (decide (a = '0'))) := by
        show Res.ok (D.bl (String.ofList [a] == "0")) = _
        rw [sgn_eq]
      have v0 : Py.one (.str s) (.str "0") = .ok (.bl (decide (s ≠ "0"))) := by
        show Res.ok (D.bl (!(s == "0"))) = _
        by_cases h : s = "0"
        · simp [h]
        · simp [h]
      have lc : lcE (istr (var 0)) [2] (gnm 2) yes (bin oinS (var 2) (cst (.str "0123456789"))) [some (.str s), some (.int 6), none] = .ok (.lst ((s.toList.map fun c => decide (c ∈ D10.toList)).map D.bl)) := by
        rw [List.map_map]
        refine lc_mapI (k := fun c => .str (String.ofList [c])) rfl (by rw [String.length_toList]; exact hs) fun c hc => ?_
        have q := in_d10 c
        generalize D.str (String.ofList [c]) = S at *
        exact ⟨_, rfl, by simp only [wipe]; simp [var, q]⟩
      have ba := ball_bs (s.toList.map fun c => decide (c ∈ D10.toList))
      by_cases hz : a = '0' ∧ s ≠ "0"
      · rw [pn_no q (.inl hz)]
        rw [decide_eq_true hz.1] at e0
        rw [decide_eq_true hz.2] at v0
        generalize nD s.length = LN at *
        generalize D.str s = W at *
        generalize D.str (String.ofList [a]) = SG at *
        simp [var, bl, c1, c2, i0, e0, v0, oN]
      · have pass : andT (tst (bin oeq (bin oidx (var 0) (cst (.int 0))) (cst (.str "0")))) (tst (bin Py.one (var 0) (cst (.str "0")))) [some (.str s), some (.int 6), none] = .ok false := by
          by_cases ha : a = '0'
          · have hw : ¬ s ≠ "0" := fun w => hz ⟨ha, w⟩
            rw [decide_eq_true ha] at e0
            rw [decide_eq_false hw] at v0
            generalize D.str s = W at *
            generalize D.str (String.ofList [a]) = SG at *
            simp [var, i0, e0, v0]
          · rw [decide_eq_false ha] at e0
            generalize D.str s = W at *
            generalize D.str (String.ofList [a]) = SG at *
            simp [var, i0, e0]
        have c0 : orT (notT (tst (Py.chain ole ole (cst (.int 1)) (un blen (var 0)) (var 1)))) (andT (tst (bin oeq (bin oidx (var 0) (cst (.int 0))) (cst (.str "0")))) (tst (bin Py.one (var 0) (cst (.str "0"))))) [some (.str s), some (.int 6), none] = .ok false := by
          rw [orT_eq]
          have : notT (tst (Py.chain ole ole (cst (.int 1)) (un blen (var 0)) (var 1))) [some (.str s), some (.int 6), none] = .ok false := by
            generalize nD s.length = LN at *
            generalize D.str s = W at *
            simp [var, bl, c1, c2]
          rw [this, bind_ok, if_neg (by simp)]
          exact pass
        show done ((seq (Py.ite _ _ skip) _) [some (.str s), some (.int 6), none]) = _
        rw [chk_pass c0]
        by_cases hd : ∀ c ∈ s.toList, c ∈ D10.toList
        · have al : (s.toList.map fun c => decide (c ∈ D10.toList)).all id = true := by
            rw [List.all_map, List.all_eq_true]
            intro c hc
            exact decide_eq_true (hd c hc)
          rw [al] at ba
          rw [pn_yes q h6 hz hd]
          have it := intx_d h1 h6 hd
          show done _ = Res.ok (nD (dgV s.toList))
          generalize (s.toList.map fun c => decide (c ∈ D10.toList)).map D.bl = BL at *
          generalize nD (dgV s.toList) = V at *
          generalize D.str s = W at *
          simp [var, lc, ba, it]
        · have al : (s.toList.map fun c => decide (c ∈ D10.toList)).all id = false := by
            rw [Bool.eq_false_iff, ne_eq, List.all_map, List.all_eq_true]
            intro h
            exact hd fun c hc => of_decide_eq_true (h c hc)
          rw [al] at ba
          rw [pn_no q (.inr hd)]
          generalize (s.toList.map fun c => decide (c ∈ D10.toList)).map D.bl = BL at *
          generalize D.str s = W at *
          simp [var, lc, ba, oN]
    · rw [decide_eq_true h1] at c1
      rw [decide_eq_false h6] at c2
      rw [pn_long (fun z => h6 z.2)]
      generalize nD s.length = LN at *
      generalize D.str s = W at *
      simp [var, bl, c1, c2, oN]
  · rw [decide_eq_false h1] at c1
    rw [pn_long (fun z => h1 z.1)]
    generalize nD s.length = LN at *
    generalize D.str s = W at *
    simp [var, bl, c1, oN]
/-- a loop that ends the def at the first thing that is not good -/
theorem forL_chk {b : D → Env → Res Fl} {I : Env → Prop} {good : D → Prop} {r : D → D} : ∀ {xs : List D} {e : Env}, I e → (∀ x ∈ xs, good x → ∀ e, I e → ∃ e', b x e = .ok (.next e') ∧ I e') → (∀ x ∈ xs, ¬ good x → ∀ e, I e → b x e = .ok (.ret (r x))) →
    ((∀ x ∈ xs, good x) ∧ ∃ e', forL b xs e = .ok (.next e') ∧ I e') ∨ (∃ x, x ∈ xs ∧ ¬ good x ∧ forL b xs e = .ok (.ret (r x)))
  | [], e, h, _, _ => Or.inl ⟨fun x hx => (nomatch hx), e, rfl, h⟩
  | x :: xs, e, h, h1, h2 => by
    by_cases hx : good x
    · obtain ⟨e', q, hI⟩ := h1 x List.mem_cons_self hx e h
      have ih := forL_chk (xs := xs) (e := e') hI (fun y hy => h1 y (List.mem_cons_of_mem _ hy)) fun y hy => h2 y (List.mem_cons_of_mem _ hy)
      have e1 : forL b (x :: xs) e = forL b xs e' := by
        show (b x e >>= _) = _
        rw [q]
        rfl
      rw [e1]
      rcases ih with ⟨g, z⟩ | ⟨y, hy, g, z⟩
      · refine .inl ⟨fun y hy => ?_, z⟩
        rcases List.mem_cons.mp hy with rfl | hy
        · exact hx
        · exact g y hy
      · exact .inr ⟨y, List.mem_cons_of_mem _ hy, g, z⟩
    · refine .inr ⟨x, List.mem_cons_self, hx, ?_⟩
      show (b x e >>= _) = _
      rw [h2 x List.mem_cons_self hx e h]
      rfl
theorem seq_ret {a b : SM} {e : Env} {d : D} (h : a e = .ok (.ret d)) : seq a b e = .ok (.ret d) := by
  rw [seq_eq, h]
  rfl
theorem for_ret {it : IM} {g : GM} {b r : SM} {e : Env} {xs : List D} {d : D} (h : it e = .ok xs) (h2 : forL (forB g b) xs e = .ok (.ret d)) : seq (for_ it g b) r e = .ok (.ret d) := seq_ret (by
  rw [for_eq, h, bind_ok]
  exact h2)
theorem lawnum_gen {s : String} (hs : s.length ≤ SZ) : m_law_number [.str s] = .ok (oN (pn s)) := by
  have bl := blen_str hs
  have c6 : ogt (nD s.length) (.int 6) = .ok (.bl (decide (6 < s.length))) := gt_n s.length 6
  have c1 : ogt (nD s.length) (.int 1) = .ok (.bl (decide (1 < s.length))) := gt_n s.length 1
  have e1 : oeq (.str s) (.str "") = .ok (.bl (s == "")) := rfl
  by_cases h1 : 1 ≤ s.length
  · have hne : (s == "") = false := by
      rw [beq_eq_false_iff_ne]
      intro z
      rw [z] at h1
      revert h1
      decide
    rw [hne] at e1
    by_cases h6 : s.length ≤ 6
    · rw [decide_eq_false (by omega)] at c6
      obtain ⟨a, r, q⟩ := cons_of h1
      have i0 := idx0 q hs
      have e0 : oeq (.str (String.ofList [a])) (.str "0") = .ok (.bl (decide (a = '0'))) := by
        show Res.ok (D.bl (String.ofList [a] == "0")) = _
        rw [sgn_eq]
      have h0 : s ≠ "0" ∧ a = '0' ↔ 1 < s.length ∧ a = '0' := by
        refine ⟨fun ⟨x, y⟩ => ⟨?_, y⟩, fun ⟨x, y⟩ => ⟨?_, y⟩⟩
        · refine Classical.byContradiction fun z => x ?_
          have : s.length = 1 := by omega
          rw [← String.length_toList, q] at this
          have hr : r = [] := List.length_eq_zero_iff.mp (by simpa using this)
          apply str_ext
          rw [q, hr, y]
          rfl
        · intro z
          rw [z] at x
          revert x
          decide
      unfold m_law_number
      rw [fn1]
      unfold b__law_number
      by_cases hz : a = '0' ∧ s ≠ "0"
      · rw [pn_no q (.inl hz)]
        rw [decide_eq_true hz.1] at e0
        rw [decide_eq_true (h0.mp ⟨hz.2, hz.1⟩).1] at c1
        generalize nD s.length = LN at *
        generalize D.str s = W at *
        generalize D.str (String.ofList [a]) = SG at *
        simp [var, bl, c1, c6, e1, i0, e0, oN]
      · have c0 : orT (tst (bin oeq (var 0) (cst (.str "")))) (orT (tst (bin ogt (un blen (var 0)) (cst (.int 6)))) (andT (tst (bin ogt (un blen (var 0)) (cst (.int 1)))) (tst (bin oeq (bin oidx (var 0) (cst (.int 0))) (cst (.str "0")))))) [some (.str s), none] = .ok false := by
          by_cases hl : 1 < s.length
          · have ha : a ≠ '0' := fun w => hz ⟨w, (h0.mpr ⟨hl, w⟩).1⟩
            rw [decide_eq_true hl] at c1
            rw [decide_eq_false ha] at e0
            generalize nD s.length = LN at *
            generalize D.str s = W at *
            generalize D.str (String.ofList [a]) = SG at *
            simp [var, bl, c1, c6, e1, i0, e0]
          · rw [decide_eq_false hl] at c1
            generalize nD s.length = LN at *
            generalize D.str s = W at *
            simp [var, bl, c1, c6, e1]
        have ch := forL_chk (b := forB (gnm 1) (Py.ite (tst (bin onotinS (var 1) (cst (.str "0123456789")))) (ret (cst .non)) skip)) (I := fun e => ∃ o, e = [some (.str s), o]) (good := fun x => ∃ c, x = .str (String.ofList [c]) ∧ c ∈ D10.toList) (r := fun _ => .non) (xs := s.toList.map fun c => .str (String.ofList [c])) (e := [some (.str s), none]) ⟨none, rfl⟩ (by
            rintro _ hx ⟨c, rfl, hc⟩ _ ⟨o, rfl⟩
            have q := nin_d10 c
            rw [decide_eq_true hc] at q
            refine ⟨_, ?_, some (.str (String.ofList [c])), rfl⟩
            generalize D.str (String.ofList [c]) = C at *
            generalize D.str s = W at *
            simp [forB_eq, gnm_eq, var, q]) (by
            rintro _ hx hn _ ⟨o, rfl⟩
            obtain ⟨c, hc, rfl⟩ := List.mem_map.mp hx
            have hc' : c ∉ D10.toList := fun z => hn ⟨c, rfl, z⟩
            have q := nin_d10 c
            rw [decide_eq_false hc'] at q
            generalize D.str (String.ofList [c]) = C at *
            generalize D.str s = W at *
            simp [forB_eq, gnm_eq, var, q])
        have fs : istr (var 0) [some (.str s), none] = .ok (s.toList.map fun c => .str (String.ofList [c])) := rfl
        show done ((seq (Py.ite _ _ skip) (seq (for_ (istr (var 0)) (gnm 1) (Py.ite (tst (bin onotinS (var 1) (cst (.str "0123456789")))) (ret (cst .non)) skip)) _)) [some (.str s), none]) = _
        rw [chk_pass c0]
        rcases ch with ⟨g, e', z, o, rfl⟩ | ⟨x, hx, hn, z⟩
        · have hd : ∀ c ∈ s.toList, c ∈ D10.toList := fun c hc => by
            obtain ⟨c2, e2, h2⟩ := g _ (List.mem_map_of_mem hc)
            have := congrArg (fun d => match d with | D.str x => x.toList | _ => []) e2
            simp only [String.toList_ofList] at this
            rw [(List.cons.inj this).1]
            exact h2
          rw [pn_yes q h6 hz hd, for_pass fs z]
          have it := intx_d h1 h6 hd
          show done _ = Res.ok (nD (dgV s.toList))
          generalize nD (dgV s.toList) = V at *
          generalize D.str s = W at *
          simp [var, it]
        · have hd : ¬ ∀ c ∈ s.toList, c ∈ D10.toList := fun w => by
            obtain ⟨c, hc, rfl⟩ := List.mem_map.mp hx
            exact hn ⟨c, rfl, w c hc⟩
          rw [pn_no q (.inr hd), for_ret fs z]
          rfl
    · rw [decide_eq_true (by omega)] at c6
      rw [pn_long (fun z => h6 z.2)]
      unfold m_law_number
      rw [fn1]
      unfold b__law_number
      generalize nD s.length = LN at *
      generalize D.str s = W at *
      simp [var, bl, c6, e1, oN]
  · have hne : (s == "") = true := by
      rw [beq_iff_eq]
      apply str_ext
      have : s.toList.length = 0 := by rw [String.length_toList]; omega
      rw [List.length_eq_zero_iff.mp this]
      decide
    rw [hne] at e1
    rw [pn_long (fun z => h1 z.1)]
    unfold m_law_number
    rw [fn1]
    unfold b__law_number
    generalize D.str s = W at *
    simp [var, e1, oN]
/-! ### lines of numbers -/
theorem mem_oN : ∀ ws : List String, mem .non (ws.map fun w => oN (pn w)) = (pns ws).isNone
  | [] => rfl
  | w :: r => by
    show (eqv (oN (pn w)) .non || mem .non (r.map fun w => oN (pn w))) = _
    rw [mem_oN r]
    show _ = (match pn w, pns r with
      | some a, some ns => some (a :: ns)
      | _, _ => none).isNone
    generalize pns r = R
    cases h : pn w with
    | none => rfl
    | some a => cases R <;> rfl
theorem map_oN : ∀ {ws : List String} {ns : List Nat}, pns ws = some ns → (ws.map fun w => oN (pn w)) = ns.map nD
  | [], ns, h => by
    cases h
    rfl
  | w :: r, ns, h => by
    unfold pns at h
    split at h
    · rename_i a ms h1 h2
      cases h
      rw [List.map_cons, map_oN h2, h1]
      rfl
    · cases h
theorem flat_oN (ws : List String) : (ws.map fun w => oN (pn w)).all flatD = true := by
  rw [List.all_map, List.all_eq_true]
  intro w _
  show flatD (oN (pn w)) = true
  cases pn w <;> rfl
theorem in_oN (ws : List String) : oin .non (.lst (ws.map fun w => oN (pn w))) = .ok (.bl (pns ws).isNone) := by
  show (if (flatD .non && (ws.map fun w => oN (pn w)).all flatD) = true then Res.ok (D.bl (mem .non (ws.map fun w => oN (pn w)))) else .stuck) = _
  rw [flat_oN, mem_oN]
  rfl
theorem lines_gen {ws : List String} (hz : ws.length ≤ SZ) (hs : ∀ w ∈ ws, w.length ≤ SZ) : m_line_numbers [.lst (ws.map D.str)] = .ok (oL (pns ws)) := by
  have lc : lcE (iseq (var 0)) [2] (gnm 2) yes (call m_plain_number (argC (var 2) (argC (cst (.int 6)) argN))) [some (.lst (ws.map D.str)), none, none] = .ok (.lst (ws.map fun w => oN (pn w))) := by
    refine lc_mapI (ys := ws) (k := D.str) rfl hz fun w hw => ?_
    have q := plain_gen (hs w hw)
    generalize D.str w = W at *
    generalize oN (pn w) = A at *
    exact ⟨_, rfl, by simp only [wipe]; simp [var, q]⟩
  have ni := in_oN ws
  unfold m_line_numbers
  rw [fn1]
  unfold b_line_numbers
  cases h : pns ws with
  | none =>
    rw [h] at ni
    show _ = Res.ok D.non
    generalize D.lst (ws.map fun w => oN (pn w)) = Z at *
    generalize D.lst (ws.map D.str) = W at *
    simp [var, lc, ni]
  | some ns =>
    rw [h] at ni
    rw [map_oN h] at lc ni
    show _ = Res.ok (D.lst (ns.map nD))
    generalize D.lst (ns.map nD) = Z at *
    generalize D.lst (ws.map D.str) = W at *
    simp [var, lc, ni]
theorem lawnums_gen {ws : List String} (hz : ws.length ≤ SZ) (hs : ∀ w ∈ ws, w.length ≤ SZ) : m_law_numbers [.lst (ws.map D.str)] = .ok (oL (pns ws)) := by
  have lc : lcE (iseq (var 0)) [2] (gnm 2) yes (call m_law_number (argC (var 2) argN)) [some (.lst (ws.map D.str)), none, none] = .ok (.lst (ws.map fun w => oN (pn w))) := by
    refine lc_mapI (ys := ws) (k := D.str) rfl hz fun w hw => ?_
    have q := lawnum_gen (hs w hw)
    generalize D.str w = W at *
    generalize oN (pn w) = A at *
    exact ⟨_, rfl, by simp only [wipe]; simp [var, q]⟩
  have ni := in_oN ws
  unfold m_law_numbers
  rw [fn1]
  unfold b__law_numbers
  cases h : pns ws with
  | none =>
    rw [h] at ni
    show _ = Res.ok D.non
    generalize D.lst (ws.map fun w => oN (pn w)) = Z at *
    generalize D.lst (ws.map D.str) = W at *
    simp [var, lc, ni]
  | some ns =>
    rw [h] at ni
    rw [map_oN h] at lc ni
    show _ = Res.ok (D.lst (ns.map nD))
    generalize D.lst (ns.map nD) = Z at *
    generalize D.lst (ws.map D.str) = W at *
    simp [var, lc, ni]
end Py.U
namespace Py.U
open PySem
/-! ### heads -/
theorem onn : oisN .non = .ok (.bl true) := rfl
theorem inputs_gen (n : Nat) : m_is_inputs [nD n] = .ok (.bl (decide (1 ≤ n ∧ n ≤ 3))) := by
  have i := isint_ok n
  have c1 : ole (.int 1) (nD n) = .ok (.bl (decide (1 ≤ n))) := le_n 1 n
  have c2 : ole (nD n) (.int 3) = .ok (.bl (decide (n ≤ 3))) := le_n n 3
  unfold m_is_inputs
  rw [fn1]
  unfold b_is_inputs
  by_cases h1 : 1 ≤ n
  · rw [decide_eq_true h1] at c1
    by_cases h3 : n ≤ 3
    · rw [decide_eq_true h3] at c2
      rw [decide_eq_true ⟨h1, h3⟩]
      generalize nD n = N at *
      simp [var, i, c1, c2]
    · rw [decide_eq_false h3] at c2
      rw [decide_eq_false (fun z => h3 z.2)]
      generalize nD n = N at *
      simp [var, i, c1, c2]
  · rw [decide_eq_false h1] at c1
    rw [decide_eq_false (fun z => h1 z.1)]
    generalize nD n = N at *
    simp [var, i, c1]
def hdP (name : String) (k : Nat) (l : String) : Option (List Nat) := match spL ' ' l with
  | [] => none
  | w :: r => if w = name ∧ r.length = k then (match pns r with
    | some (n :: ns) => if 1 ≤ n ∧ n ≤ 3 then some (n :: ns) else none
    | _ => none) else none
theorem words_sz {l : String} (hz : l.length + 2 ≤ SZ) : (spL ' ' l).length ≤ SZ ∧ ∀ w ∈ spL ' ' l, w.length ≤ SZ := by
  have t := tot_spL ' ' l
  refine ⟨?_, fun w hw => ?_⟩
  · have := tot_len (spL ' ' l)
    omega
  · have := tot_mem hw
    omega
theorem head_gen {name l : String} {k : Nat} (hk : 1 ≤ k) (hk3 : k ≤ 3) (hz : l.length + 2 ≤ SZ) : m_head_numbers [.str l, .str name, nD k] = .ok (oL (hdP name k l)) := by
  have sp := split_L (a := l) spc (by decide) hz
  obtain ⟨z1, z2⟩ := words_sz hz
  unfold hdP
  cases q : spL ' ' l with
  | nil => exact absurd q (spL_ne ' ' l)
  | cons w r =>
    rw [q] at sp z1 z2
    have ln := lines_gen (ws := r) (by simp at z1; omega) fun v hv => z2 v (List.mem_cons_of_mem _ hv)
    have i0 : oidx (.lst ((w :: r).map D.str)) (.int 0) = .ok (.str w) := oidx_l (k := 0) rfl
    have v1 : Py.one (.str w) (.str name) = .ok (.bl (decide (w ≠ name))) := by
      show Res.ok (D.bl (!(w == name))) = _
      by_cases h : w = name
      · simp [h]
      · simp [h]
    have bl : blen (.lst ((w :: r).map D.str)) = .ok (nD (r.length + 1)) := by
      rw [lenN]
      simp
    have ad := nadd k 1
    change oadd (nD k) (.int 1) = _ at ad
    have n1 := one_n (r.length + 1) (k + 1)
    have s1 : oslc (.lst ((w :: r).map D.str)) (some 1) none = .ok (.lst (r.map D.str)) := slc1 _ _
    unfold m_head_numbers
    rw [fn3]
    unfold b_head_numbers
    dsimp only
    by_cases hw : w = name
    · by_cases hr : r.length = k
      · rw [if_pos ⟨hw, hr⟩]
        rw [decide_eq_false (by simpa using hw)] at v1
        rw [decide_eq_false (by omega)] at n1
        cases h : pns r with
        | none =>
          rw [h] at ln
          change _ = Res.ok D.non at ln
          show _ = Res.ok D.non
          generalize D.lst ((w :: r).map D.str) = W at *
          generalize D.lst (r.map D.str) = R at *
          generalize nD (r.length + 1) = L1 at *
          generalize nD (k + 1) = K1 at *
          generalize nD k = K at *
          generalize D.str name = NM at *
          generalize D.str w = WW at *
          simp [var, mtx_eq, sp, i0, v1, bl, ad, n1, slc_eq, bnd_none, bnd_some, s1, ln, onn]
        | some ns =>
          have hl := pns_len h
          cases ns with
          | nil =>
            simp at hl
            omega
          | cons n ns =>
            rw [h] at ln
            change _ = Res.ok (D.lst ((n :: ns).map nD)) at ln
            have on : oisN (.lst ((n :: ns).map nD)) = .ok (.bl false) := rfl
            have j0 : oidx (.lst ((n :: ns).map nD)) (.int 0) = .ok (nD n) := oidx_l (k := 0) rfl
            have inp := inputs_gen n
            dsimp only
            by_cases h13 : 1 ≤ n ∧ n ≤ 3
            · rw [if_pos h13]
              rw [decide_eq_true h13] at inp
              show _ = Res.ok (D.lst ((n :: ns).map nD))
              generalize D.lst ((w :: r).map D.str) = W at *
              generalize D.lst (r.map D.str) = R at *
              generalize D.lst ((n :: ns).map nD) = V at *
              generalize nD (r.length + 1) = L1 at *
              generalize nD (k + 1) = K1 at *
              generalize nD k = K at *
              generalize D.str name = NM at *
              generalize D.str w = WW at *
              generalize nD n = NN at *
              simp [var, mtx_eq, sp, i0, v1, bl, ad, n1, slc_eq, bnd_none, bnd_some, s1, ln, on, j0, inp]
            · rw [if_neg h13]
              rw [decide_eq_false h13] at inp
              show _ = Res.ok D.non
              generalize D.lst ((w :: r).map D.str) = W at *
              generalize D.lst (r.map D.str) = R at *
              generalize D.lst ((n :: ns).map nD) = V at *
              generalize nD (r.length + 1) = L1 at *
              generalize nD (k + 1) = K1 at *
              generalize nD k = K at *
              generalize D.str name = NM at *
              generalize D.str w = WW at *
              generalize nD n = NN at *
              simp [var, mtx_eq, sp, i0, v1, bl, ad, n1, slc_eq, bnd_none, bnd_some, s1, ln, on, j0, inp]
      · rw [if_neg (fun z => hr z.2)]
        rw [decide_eq_false (by simpa using hw)] at v1
        rw [decide_eq_true (by omega)] at n1
        show _ = Res.ok D.non
        generalize D.lst ((w :: r).map D.str) = W at *
        generalize nD (r.length + 1) = L1 at *
        generalize nD (k + 1) = K1 at *
        generalize nD k = K at *
        generalize D.str name = NM at *
        generalize D.str w = WW at *
        simp [var, mtx_eq, sp, i0, v1, bl, ad, n1]
    · rw [if_neg (fun z => hw z.1)]
      rw [decide_eq_true hw] at v1
      show _ = Res.ok D.non
      generalize D.lst ((w :: r).map D.str) = W at *
      generalize D.str name = NM at *
      generalize D.str w = WW at *
      simp [var, mtx_eq, sp, i0, v1]
/-- heads that may stand -/
def rowH (l : String) : Option (Nat × Nat × Nat) := match hdP "row" 3 l with
  | some [n, m, o] => if o < n + m then some (n, m, o) else none
  | _ => none
def macH (l : String) : Option (Nat × Nat) := match hdP "machine" 2 l with
  | some [n, m] => if m ≠ 0 then some (n, m) else none
  | _ => none
theorem hdP_some {name l : String} {k : Nat} {ns : List Nat} (h : hdP name k l = some ns) : ns.length = k ∧ (∀ a ∈ ns, a < 1000000) ∧ (∃ n r, ns = n :: r ∧ 1 ≤ n ∧ n ≤ 3) ∧ l = J ' ' (name :: ns.map nS) := by
  unfold hdP at h
  cases q : spL ' ' l with
  | nil => exact absurd q (spL_ne ' ' l)
  | cons w r =>
    rw [q] at h
    dsimp only at h
    split at h
    · rename_i hh
      split at h
      · rename_i n ms hp
        split at h
        · rename_i h13
          cases h
          obtain ⟨e, lt⟩ := pns_some hp
          refine ⟨?_, lt, ⟨n, ms, rfl, h13.1, h13.2⟩, ?_⟩
          · rw [pns_len hp]
            exact hh.2
          · rw [← e, ← hh.1, ← q, J_spL]
        · cases h
      · cases h
    · cases h
def oH3 : Option (Nat × Nat × Nat) → D
  | some (n, m, o) => .lst [nD n, nD m, nD o]
  | none => .non
def oH2 : Option (Nat × Nat) → D
  | some (n, m) => .lst [nD n, nD m]
  | none => .non
section
variable {l : String} (hz : l.length + 2 ≤ SZ)
include hz
theorem law_head_row : m_law_head [.str l, .str "row"] = .ok (oH3 (rowH l)) := by
  have sp := split_L (a := l) spc (by decide) hz
  obtain ⟨z1, z2⟩ := words_sz hz
  unfold rowH hdP
  cases q : spL ' ' l with
  | nil => exact absurd q (spL_ne ' ' l)
  | cons w r =>
    rw [q] at sp z1 z2
    have ln := lawnums_gen (ws := r) (by simp at z1; omega) fun v hv => z2 v (List.mem_cons_of_mem _ hv)
    have i0 : oidx (.lst ((w :: r).map D.str)) (.int 0) = .ok (.str w) := oidx_l (k := 0) rfl
    have v1 : Py.one (.str w) (.str "row") = .ok (.bl (decide (w ≠ "row"))) := by
      show Res.ok (D.bl (!(w == "row"))) = _
      by_cases h : w = "row"
      · simp [h]
      · simp [h]
    have s1 : oslc (.lst ((w :: r).map D.str)) (some 1) none = .ok (.lst (r.map D.str)) := slc1 _ _
    have er : oeq (.str "row") (.str "row") = .ok (.bl true) := rfl
    have em : oeq (.str "row") (.str "machine") = .ok (.bl false) := rfl
    have bi : bint (.bl true) = .ok (.int 1) := rfl
    have ad : oadd (.int 2) (.int 1) = .ok (.int 3) := rfl
    unfold m_law_head
    rw [fn2]
    unfold b__law_head
    dsimp only
    by_cases hw : w = "row"
    · rw [decide_eq_false (by simpa using hw)] at v1
      cases h : pns r with
      | none =>
        have e : (match (if w = "row" ∧ r.length = 3 then (none : Option (List Nat)) else none) with
          | some [n, m, o] => if o < n + m then some (n, m, o) else none
          | _ => none) = none := by
          split <;> first | rfl | (rename_i z; split at z <;> cases z)
        rw [h] at ln
        change _ = Res.ok D.non at ln
        dsimp only
        rw [e]
        show _ = Res.ok D.non
        generalize D.lst ((w :: r).map D.str) = W at *
        generalize D.lst (r.map D.str) = R at *
        generalize D.str "row" = NM at *
        generalize D.str w = WW at *
        simp [var, mtx_eq, sp, i0, v1, slc_eq, bnd_none, bnd_some, s1, ln, onn]
      | some ns =>
        have hl := pns_len h
        rw [h] at ln
        change _ = Res.ok (D.lst (ns.map nD)) at ln
        have on : oisN (.lst (ns.map nD)) = .ok (.bl false) := rfl
        have bl : blen (.lst (ns.map nD)) = .ok (nD ns.length) := lenN ns _
        have n1 : Py.one (nD ns.length) (.int 3) = .ok (.bl (decide (ns.length ≠ 3))) := one_n ns.length 3
        by_cases hr : r.length = 3
        · rw [if_pos ⟨hw, hr⟩]
          match ns, hl with
          | [n, m, o], _ =>
            rw [decide_eq_false (by simp)] at n1
            have j0 : oidx (.lst ([n, m, o].map nD)) (.int 0) = .ok (nD n) := oidx_l (k := 0) rfl
            have j1 : oidx (.lst ([n, m, o].map nD)) (.int 1) = .ok (nD m) := oidx_l (k := 1) rfl
            have j2 : oidx (.lst ([n, m, o].map nD)) (.int 2) = .ok (nD o) := oidx_l (k := 2) rfl
            have a2 := nadd n m
            have g := ge_n o (n + m)
            have c1 : ole (.int 1) (nD n) = .ok (.bl (decide (1 ≤ n))) := le_n 1 n
            have c2 : ole (nD n) (.int 3) = .ok (.bl (decide (n ≤ 3))) := le_n n 3
            dsimp only
            by_cases h1 : 1 ≤ n
            · rw [decide_eq_true h1] at c1
              by_cases h3 : n ≤ 3
              · rw [decide_eq_true h3] at c2
                rw [if_pos ⟨h1, h3⟩]
                dsimp only
                by_cases ho : o < n + m
                · rw [if_pos ho]
                  rw [decide_eq_false (by omega)] at g
                  show _ = Res.ok (D.lst ([n, m, o].map nD))
                  generalize D.lst ((w :: r).map D.str) = W at *
                  generalize D.lst (r.map D.str) = R at *
                  generalize D.lst ([n, m, o].map nD) = V at *
                  generalize nD [n, m, o].length = LN at *
                  generalize D.str w = WW at *
                  generalize nD (n + m) = NM at *
                  generalize nD n = N at *
                  generalize nD m = M at *
                  generalize nD o = O at *
                  simp [var, mtx_eq, sp, i0, v1, slc_eq, bnd_none, bnd_some, s1, ln, on, bl, n1, er, em, bi, ad, j0, j1, j2, a2, g, c1, c2]
                · rw [if_neg ho]
                  rw [decide_eq_true (by omega)] at g
                  show _ = Res.ok D.non
                  generalize D.lst ((w :: r).map D.str) = W at *
                  generalize D.lst (r.map D.str) = R at *
                  generalize D.lst ([n, m, o].map nD) = V at *
                  generalize nD [n, m, o].length = LN at *
                  generalize D.str w = WW at *
                  generalize nD (n + m) = NM at *
                  generalize nD n = N at *
                  generalize nD m = M at *
                  generalize nD o = O at *
                  simp [var, mtx_eq, sp, i0, v1, slc_eq, bnd_none, bnd_some, s1, ln, on, bl, n1, er, em, bi, ad, j0, j1, j2, a2, g, c1, c2]
              · rw [decide_eq_false h3] at c2
                rw [if_neg (fun z => h3 z.2)]
                show _ = Res.ok D.non
                generalize D.lst ((w :: r).map D.str) = W at *
                generalize D.lst (r.map D.str) = R at *
                generalize D.lst ([n, m, o].map nD) = V at *
                generalize nD [n, m, o].length = LN at *
                generalize D.str w = WW at *
                generalize nD n = N at *
                simp [var, mtx_eq, sp, i0, v1, slc_eq, bnd_none, bnd_some, s1, ln, on, bl, n1, er, bi, ad, j0, c1, c2]
            · rw [decide_eq_false h1] at c1
              rw [if_neg (fun z => h1 z.1)]
              show _ = Res.ok D.non
              generalize D.lst ((w :: r).map D.str) = W at *
              generalize D.lst (r.map D.str) = R at *
              generalize D.lst ([n, m, o].map nD) = V at *
              generalize nD [n, m, o].length = LN at *
              generalize D.str w = WW at *
              generalize nD n = N at *
              simp [var, mtx_eq, sp, i0, v1, slc_eq, bnd_none, bnd_some, s1, ln, on, bl, n1, er, bi, ad, j0, c1]
          | [], hl => simp at hl; omega
          | [_], hl => simp at hl; omega
          | [_, _], hl => simp at hl; omega
          | _ :: _ :: _ :: _ :: _, hl => simp at hl; omega
        · rw [if_neg (fun z => hr z.2)]
          rw [decide_eq_true (by omega)] at n1
          show _ = Res.ok D.non
          generalize D.lst ((w :: r).map D.str) = W at *
          generalize D.lst (r.map D.str) = R at *
          generalize D.lst (ns.map nD) = V at *
          generalize nD ns.length = LN at *
          generalize D.str w = WW at *
          simp [var, mtx_eq, sp, i0, v1, slc_eq, bnd_none, bnd_some, s1, ln, on, bl, n1, er, bi, ad]
    · rw [if_neg (fun z => hw z.1)]
      rw [decide_eq_true hw] at v1
      show _ = Res.ok D.non
      generalize D.lst ((w :: r).map D.str) = W at *
      generalize D.lst (r.map D.str) = R at *
      generalize oL (pns r) = V at *
      generalize D.str "row" = NM at *
      generalize D.str w = WW at *
      simp [var, mtx_eq, sp, i0, v1, slc_eq, bnd_none, bnd_some, s1, ln, onn]
end
end Py.U
namespace Py.U
open PySem
section
variable {l : String} (hz : l.length + 2 ≤ SZ)
include hz
theorem law_head_mac : m_law_head [.str l, .str "machine"] = .ok (oH2 (macH l)) := by
  have sp := split_L (a := l) spc (by decide) hz
  obtain ⟨z1, z2⟩ := words_sz hz
  unfold macH hdP
  cases q : spL ' ' l with
  | nil => exact absurd q (spL_ne ' ' l)
  | cons w r =>
    rw [q] at sp z1 z2
    have ln := lawnums_gen (ws := r) (by simp at z1; omega) fun v hv => z2 v (List.mem_cons_of_mem _ hv)
    have i0 : oidx (.lst ((w :: r).map D.str)) (.int 0) = .ok (.str w) := oidx_l (k := 0) rfl
    have v1 : Py.one (.str w) (.str "machine") = .ok (.bl (decide (w ≠ "machine"))) := by
      show Res.ok (D.bl (!(w == "machine"))) = _
      by_cases h : w = "machine"
      · simp [h]
      · simp [h]
    have s1 : oslc (.lst ((w :: r).map D.str)) (some 1) none = .ok (.lst (r.map D.str)) := slc1 _ _
    have er : oeq (.str "machine") (.str "row") = .ok (.bl false) := rfl
    have em : oeq (.str "machine") (.str "machine") = .ok (.bl true) := rfl
    have bi : bint (.bl false) = .ok (.int 0) := rfl
    have ad : oadd (.int 2) (.int 0) = .ok (.int 2) := rfl
    unfold m_law_head
    rw [fn2]
    unfold b__law_head
    dsimp only
    by_cases hw : w = "machine"
    · rw [decide_eq_false (by simpa using hw)] at v1
      cases h : pns r with
      | none =>
        rw [h] at ln
        change _ = Res.ok D.non at ln
        dsimp only
        rw [ite_self]
        show _ = Res.ok D.non
        generalize D.lst ((w :: r).map D.str) = W at *
        generalize D.lst (r.map D.str) = R at *
        generalize D.str "machine" = NM at *
        generalize D.str w = WW at *
        simp [var, mtx_eq, sp, i0, v1, slc_eq, bnd_none, bnd_some, s1, ln, onn]
      | some ns =>
        have hl := pns_len h
        rw [h] at ln
        change _ = Res.ok (D.lst (ns.map nD)) at ln
        have on : oisN (.lst (ns.map nD)) = .ok (.bl false) := rfl
        have bl : blen (.lst (ns.map nD)) = .ok (nD ns.length) := lenN ns _
        have n1 : Py.one (nD ns.length) (.int 2) = .ok (.bl (decide (ns.length ≠ 2))) := one_n ns.length 2
        by_cases hr : r.length = 2
        · rw [if_pos ⟨hw, hr⟩]
          match ns, hl with
          | [n, m], _ =>
            rw [decide_eq_false (by simp)] at n1
            have j0 : oidx (.lst ([n, m].map nD)) (.int 0) = .ok (nD n) := oidx_l (k := 0) rfl
            have j1 : oidx (.lst ([n, m].map nD)) (.int 1) = .ok (nD m) := oidx_l (k := 1) rfl
            have g : oeq (nD m) (.int 0) = .ok (.bl (decide (m = 0))) := nat_eq m 0
            have c1 : ole (.int 1) (nD n) = .ok (.bl (decide (1 ≤ n))) := le_n 1 n
            have c2 : ole (nD n) (.int 3) = .ok (.bl (decide (n ≤ 3))) := le_n n 3
            dsimp only
            by_cases h1 : 1 ≤ n
            · rw [decide_eq_true h1] at c1
              by_cases h3 : n ≤ 3
              · rw [decide_eq_true h3] at c2
                rw [if_pos ⟨h1, h3⟩]
                dsimp only
                by_cases ho : m ≠ 0
                · rw [if_pos ho]
                  rw [decide_eq_false (by omega)] at g
                  show _ = Res.ok (D.lst ([n, m].map nD))
                  generalize D.lst ((w :: r).map D.str) = W at *
                  generalize D.lst (r.map D.str) = R at *
                  generalize D.lst ([n, m].map nD) = V at *
                  generalize nD [n, m].length = LN at *
                  generalize D.str w = WW at *
                  generalize nD n = N at *
                  generalize nD m = M at *
                  simp [var, mtx_eq, sp, i0, v1, slc_eq, bnd_none, bnd_some, s1, ln, on, bl, n1, er, em, bi, ad, j0, j1, g, c1, c2]
                · rw [if_neg ho]
                  rw [decide_eq_true (by omega)] at g
                  show _ = Res.ok D.non
                  generalize D.lst ((w :: r).map D.str) = W at *
                  generalize D.lst (r.map D.str) = R at *
                  generalize D.lst ([n, m].map nD) = V at *
                  generalize nD [n, m].length = LN at *
                  generalize D.str w = WW at *
                  generalize nD n = N at *
                  generalize nD m = M at *
                  simp [var, mtx_eq, sp, i0, v1, slc_eq, bnd_none, bnd_some, s1, ln, on, bl, n1, er, em, bi, ad, j0, j1, g, c1, c2]
              · rw [decide_eq_false h3] at c2
                rw [if_neg (fun z => h3 z.2)]
                show _ = Res.ok D.non
                generalize D.lst ((w :: r).map D.str) = W at *
                generalize D.lst (r.map D.str) = R at *
                generalize D.lst ([n, m].map nD) = V at *
                generalize nD [n, m].length = LN at *
                generalize D.str w = WW at *
                generalize nD n = N at *
                simp [var, mtx_eq, sp, i0, v1, slc_eq, bnd_none, bnd_some, s1, ln, on, bl, n1, er, bi, ad, j0, c1, c2]
            · rw [decide_eq_false h1] at c1
              rw [if_neg (fun z => h1 z.1)]
              show _ = Res.ok D.non
              generalize D.lst ((w :: r).map D.str) = W at *
              generalize D.lst (r.map D.str) = R at *
              generalize D.lst ([n, m].map nD) = V at *
              generalize nD [n, m].length = LN at *
              generalize D.str w = WW at *
              generalize nD n = N at *
              simp [var, mtx_eq, sp, i0, v1, slc_eq, bnd_none, bnd_some, s1, ln, on, bl, n1, er, bi, ad, j0, c1]
          | [], hl => simp at hl; omega
          | [_], hl => simp at hl; omega
          | _ :: _ :: _ :: _, hl => simp at hl; omega
        · rw [if_neg (fun z => hr z.2)]
          rw [decide_eq_true (by omega)] at n1
          show _ = Res.ok D.non
          generalize D.lst ((w :: r).map D.str) = W at *
          generalize D.lst (r.map D.str) = R at *
          generalize D.lst (ns.map nD) = V at *
          generalize nD ns.length = LN at *
          generalize D.str w = WW at *
          simp [var, mtx_eq, sp, i0, v1, slc_eq, bnd_none, bnd_some, s1, ln, on, bl, n1, er, bi, ad]
    · rw [if_neg (fun z => hw z.1)]
      rw [decide_eq_true hw] at v1
      show _ = Res.ok D.non
      generalize D.lst ((w :: r).map D.str) = W at *
      generalize D.lst (r.map D.str) = R at *
      generalize oL (pns r) = V at *
      generalize D.str "machine" = NM at *
      generalize D.str w = WW at *
      simp [var, mtx_eq, sp, i0, v1, slc_eq, bnd_none, bnd_some, s1, ln]
end
/-! ### states -/
theorem mx_iff {c : List Nat} {B : Nat} (hB : 0 < B) : mxN c < B ↔ ∀ a ∈ c, a < B := by
  have key : ∀ (c : List Nat) (a : Nat), c.foldl max a < B ↔ a < B ∧ ∀ x ∈ c, x < B := fun c => by
    induction c with
    | nil => exact fun a => ⟨fun h => ⟨h, fun x hx => nomatch hx⟩, fun h => h.1⟩
    | cons x r ih =>
      intro a
      rw [List.foldl_cons, ih]
      refine ⟨fun ⟨h1, h2⟩ => ⟨by omega, fun y hy => ?_⟩, fun ⟨h1, h2⟩ => ⟨?_, fun y hy => h2 y (List.mem_cons_of_mem _ hy)⟩⟩
      · rcases List.mem_cons.mp hy with rfl | hy
        · omega
        · exact h2 y hy
      · have := h2 x List.mem_cons_self
        omega
  unfold mxN
  rw [key]
  exact ⟨fun h => h.2, fun h => ⟨hB, h⟩⟩
theorem ev2_map {α β : Type} (f : α → β) : ∀ xs : List α, ev2 (xs.map f) = (ev2 xs).map f
  | [] => rfl
  | [x] => rfl
  | x :: y :: r => by
    show f x :: ev2 (r.map f) = f x :: (ev2 r).map f
    rw [ev2_map f r]
theorem ev2_len {α : Type} : ∀ xs : List α, (ev2 xs).length = (xs.length + 1) / 2
  | [] => by simp [ev2]
  | [x] => by simp [ev2]
  | x :: y :: r => by
    show (ev2 r).length + 1 = (r.length + 1 + 1 + 1) / 2
    rw [ev2_len r]
    omega
theorem shl2 {n : Nat} (h1 : 1 ≤ n) (h3 : n ≤ 3) : oshl (.int 2) (nD n) = .ok (nD (2 * 2 ^ n)) := by
  have : n = 1 ∨ n = 2 ∨ n = 3 := by omega
  rcases this with rfl | rfl | rfl <;> rfl
def stP (n S : Nat) (l : String) : Option (List Nat × List Nat) := match pns (spL ' ' l) with
  | some ns => if ns.length = 2 * 2 ^ n ∧ (∀ a ∈ ev2 ns, a < S) ∧ (∀ a ∈ ev2 (ns.drop 1), a < 2) then some (ev2 ns, ev2 (ns.drop 1)) else none
  | none => none
def oP : Option (List Nat × List Nat) → D
  | some (a, b) => .tup [rD a, rD b]
  | none => .non
theorem stP_some {n S : Nat} {l : String} {p : List Nat × List Nat} (h : stP n S l = some p) : p.1.length = 2 ^ n ∧ p.2.length = 2 ^ n ∧ (∀ a ∈ p.1, a < S) ∧ ∀ a ∈ p.2, a < 2 := by
  unfold stP at h
  split at h
  · rename_i ns hp
    split at h
    · rename_i hh
      cases h
      refine ⟨?_, ?_, hh.2.1, hh.2.2⟩
      · show (ev2 ns).length = _
        rw [ev2_len]
        omega
      · show (ev2 (ns.drop 1)).length = _
        rw [ev2_len, List.length_drop]
        omega
    · cases h
  · cases h
section
variable {n S : Nat} {l : String} (h1 : 1 ≤ n) (h3 : n ≤ 3) (hS : 0 < S) (hz : l.length + 2 ≤ SZ)
include h1 h3 hS hz
theorem ge_mx (c : List Nat) : oge (nD (mxN c)) (nD S) = .ok (.bl (decide (¬ ∀ a ∈ c, a < S))) := by
  rw [ge_n]
  congr 2
  exact decide_eq_decide.mpr (by rw [← mx_iff hS]; omega)
theorem gt_mx (c : List Nat) : ogt (nD (mxN c)) (.int 1) = .ok (.bl (decide (¬ ∀ a ∈ c, a < 2))) := by
  have := gt_n (mxN c) 1
  refine this.trans ?_
  congr 2
  exact decide_eq_decide.mpr (by rw [← mx_iff (B := 2) (by omega)]; omega)
theorem state_gen : m_state_parts [.str l, nD n, nD S] = .ok (oP (stP n S l)) ∧ m_law_state [.str l, nD n, nD S] = .ok (oP (stP n S l)) := by
  have sp := split_L (a := l) spc (by decide) hz
  obtain ⟨z1, z2⟩ := words_sz hz
  have ln := lines_gen z1 z2
  have lw := lawnums_gen z1 z2
  have sh := shl2 h1 h3
  have p2 : 0 < 2 ^ n := Nat.two_pow_pos n
  unfold stP
  cases h : pns (spL ' ' l) with
  | none =>
    rw [h] at ln lw
    change _ = Res.ok D.non at ln
    change _ = Res.ok D.non at lw
    constructor
    · unfold m_state_parts
      rw [fn3]
      unfold b_state_parts
      show _ = Res.ok D.non
      generalize D.lst ((spL ' ' l).map D.str) = W at *
      generalize nD n = N at *
      generalize nD S = SS at *
      simp [var, mtx_eq, sp, ln, onn]
    · unfold m_law_state
      rw [fn3]
      unfold b__law_state
      show _ = Res.ok D.non
      generalize D.lst ((spL ' ' l).map D.str) = W at *
      generalize nD n = N at *
      generalize nD S = SS at *
      simp [var, mtx_eq, sp, lw, onn]
  | some ns =>
    rw [h] at ln lw
    change _ = Res.ok (D.lst (ns.map nD)) at ln
    change _ = Res.ok (D.lst (ns.map nD)) at lw
    have on : oisN (.lst (ns.map nD)) = .ok (.bl false) := rfl
    have bl : blen (.lst (ns.map nD)) = .ok (nD ns.length) := lenN ns _
    have n1 := one_n ns.length (2 * 2 ^ n)
    dsimp only
    by_cases hl : ns.length = 2 * 2 ^ n
    · rw [decide_eq_false (by simpa using hl)] at n1
      have l1 : 0 < (ev2 ns).length := by rw [ev2_len]; omega
      have l2 : 0 < (ev2 (ns.drop 1)).length := by rw [ev2_len, List.length_drop]; omega
      have ea : oev2 0 (.lst (ns.map nD)) = .ok (.lst ((ev2 ns).map nD)) := by
        show Res.ok (D.lst (ev2 (ns.map nD))) = _
        rw [ev2_map]
      have eb : oev2 1 (.lst (ns.map nD)) = .ok (.lst ((ev2 (ns.drop 1)).map nD)) := by
        show Res.ok (D.lst (ev2 ((ns.map nD).drop 1))) = _
        rw [← List.map_drop, ev2_map]
      have ta : btuple (.lst ((ev2 ns).map nD)) = .ok (rD (ev2 ns)) := rfl
      have tb : btuple (.lst ((ev2 (ns.drop 1)).map nD)) = .ok (rD (ev2 (ns.drop 1))) := rfl
      have ma : bmaxT (rD (ev2 ns)) = .ok (nD (mxN (ev2 ns))) := bmax_nD l1
      have mb : bmaxT (rD (ev2 (ns.drop 1))) = .ok (nD (mxN (ev2 (ns.drop 1)))) := bmax_nD l2
      have la : bmaxT (.lst ((ev2 ns).map nD)) = .ok (nD (mxN (ev2 ns))) := bmax_nD l1
      have lb : bmaxT (.lst ((ev2 (ns.drop 1)).map nD)) = .ok (nD (mxN (ev2 (ns.drop 1)))) := bmax_nD l2
      have g1 := ge_mx h1 h3 hS hz (ev2 ns)
      have g2 := gt_mx h1 h3 hS hz (ev2 (ns.drop 1))
      by_cases hA : ∀ a ∈ ev2 ns, a < S
      · rw [decide_eq_false (fun w => w hA)] at g1
        by_cases hB : ∀ a ∈ ev2 (ns.drop 1), a < 2
        · rw [decide_eq_false (fun w => w hB)] at g2
          rw [if_pos ⟨hl, hA, hB⟩]
          constructor
          · unfold m_state_parts
            rw [fn3]
            unfold b_state_parts
            show _ = Res.ok (D.tup [rD (ev2 ns), rD (ev2 (ns.drop 1))])
            generalize D.lst ((spL ' ' l).map D.str) = W at *
            generalize D.lst (ns.map nD) = V at *
            generalize D.lst ((ev2 ns).map nD) = A1 at *
            generalize D.lst ((ev2 (ns.drop 1)).map nD) = B1 at *
            generalize rD (ev2 ns) = A at *
            generalize rD (ev2 (ns.drop 1)) = B at *
            generalize nD (mxN (ev2 ns)) = X at *
            generalize nD (mxN (ev2 (ns.drop 1))) = Y at *
            generalize nD (2 * 2 ^ n) = P at *
            generalize nD ns.length = LL at *
            generalize nD n = N at *
            generalize nD S = SS at *
            simp [var, mtx_eq, sp, ln, on, bl, sh, n1, ea, eb, ta, tb, ma, mb, g1, g2]
          · unfold m_law_state
            rw [fn3]
            unfold b__law_state
            show _ = Res.ok (D.tup [rD (ev2 ns), rD (ev2 (ns.drop 1))])
            generalize D.lst ((spL ' ' l).map D.str) = W at *
            generalize D.lst (ns.map nD) = V at *
            generalize D.lst ((ev2 ns).map nD) = A1 at *
            generalize D.lst ((ev2 (ns.drop 1)).map nD) = B1 at *
            generalize rD (ev2 ns) = A at *
            generalize rD (ev2 (ns.drop 1)) = B at *
            generalize nD (mxN (ev2 ns)) = X at *
            generalize nD (mxN (ev2 (ns.drop 1))) = Y at *
            generalize nD (2 * 2 ^ n) = P at *
            generalize nD ns.length = LL at *
            generalize nD n = N at *
            generalize nD S = SS at *
            simp [var, mtx_eq, sp, lw, on, bl, sh, n1, ea, eb, ta, tb, la, lb, g1, g2]
        · rw [decide_eq_true hB] at g2
          rw [if_neg (fun z => hB z.2.2)]
          constructor
          · unfold m_state_parts
            rw [fn3]
            unfold b_state_parts
            show _ = Res.ok D.non
            generalize D.lst ((spL ' ' l).map D.str) = W at *
            generalize D.lst (ns.map nD) = V at *
            generalize D.lst ((ev2 ns).map nD) = A1 at *
            generalize D.lst ((ev2 (ns.drop 1)).map nD) = B1 at *
            generalize rD (ev2 ns) = A at *
            generalize rD (ev2 (ns.drop 1)) = B at *
            generalize nD (mxN (ev2 ns)) = X at *
            generalize nD (mxN (ev2 (ns.drop 1))) = Y at *
            generalize nD (2 * 2 ^ n) = P at *
            generalize nD ns.length = LL at *
            generalize nD n = N at *
            generalize nD S = SS at *
            simp [var, mtx_eq, sp, ln, on, bl, sh, n1, ea, eb, ta, tb, ma, mb, g1, g2]
          · unfold m_law_state
            rw [fn3]
            unfold b__law_state
            show _ = Res.ok D.non
            generalize D.lst ((spL ' ' l).map D.str) = W at *
            generalize D.lst (ns.map nD) = V at *
            generalize D.lst ((ev2 ns).map nD) = A1 at *
            generalize D.lst ((ev2 (ns.drop 1)).map nD) = B1 at *
            generalize nD (mxN (ev2 ns)) = X at *
            generalize nD (mxN (ev2 (ns.drop 1))) = Y at *
            generalize nD (2 * 2 ^ n) = P at *
            generalize nD ns.length = LL at *
            generalize nD n = N at *
            generalize nD S = SS at *
            simp [var, mtx_eq, sp, lw, on, bl, sh, n1, ea, eb, la, lb, g1, g2]
      · rw [decide_eq_true hA] at g1
        rw [if_neg (fun z => hA z.2.1)]
        constructor
        · unfold m_state_parts
          rw [fn3]
          unfold b_state_parts
          show _ = Res.ok D.non
          generalize D.lst ((spL ' ' l).map D.str) = W at *
          generalize D.lst (ns.map nD) = V at *
          generalize D.lst ((ev2 ns).map nD) = A1 at *
          generalize D.lst ((ev2 (ns.drop 1)).map nD) = B1 at *
          generalize rD (ev2 ns) = A at *
          generalize rD (ev2 (ns.drop 1)) = B at *
          generalize nD (mxN (ev2 ns)) = X at *
          generalize nD (2 * 2 ^ n) = P at *
          generalize nD ns.length = LL at *
          generalize nD n = N at *
          generalize nD S = SS at *
          simp [var, mtx_eq, sp, ln, on, bl, sh, n1, ea, eb, ta, tb, ma, g1]
        · unfold m_law_state
          rw [fn3]
          unfold b__law_state
          show _ = Res.ok D.non
          generalize D.lst ((spL ' ' l).map D.str) = W at *
          generalize D.lst (ns.map nD) = V at *
          generalize D.lst ((ev2 ns).map nD) = A1 at *
          generalize D.lst ((ev2 (ns.drop 1)).map nD) = B1 at *
          generalize nD (mxN (ev2 ns)) = X at *
          generalize nD (2 * 2 ^ n) = P at *
          generalize nD ns.length = LL at *
          generalize nD n = N at *
          generalize nD S = SS at *
          simp [var, mtx_eq, sp, lw, on, bl, sh, n1, ea, eb, la, g1]
    · rw [decide_eq_true hl] at n1
      rw [if_neg (fun z => hl z.1)]
      constructor
      · unfold m_state_parts
        rw [fn3]
        unfold b_state_parts
        show _ = Res.ok D.non
        generalize D.lst ((spL ' ' l).map D.str) = W at *
        generalize D.lst (ns.map nD) = V at *
        generalize nD (2 * 2 ^ n) = P at *
        generalize nD ns.length = LL at *
        generalize nD n = N at *
        generalize nD S = SS at *
        simp [var, mtx_eq, sp, ln, on, bl, sh, n1]
      · unfold m_law_state
        rw [fn3]
        unfold b__law_state
        show _ = Res.ok D.non
        generalize D.lst ((spL ' ' l).map D.str) = W at *
        generalize D.lst (ns.map nD) = V at *
        generalize nD (2 * 2 ^ n) = P at *
        generalize nD ns.length = LL at *
        generalize nD n = N at *
        generalize nD S = SS at *
        simp [var, mtx_eq, sp, lw, on, bl, sh, n1]
end
end Py.U
namespace Py.U
open PySem
/-! ### the same -/
theorem same_n (k a : Nat) : m_law_same (k + 1) [nD a, nD a] = .ok (.bl true) := by
  have t : oisi CS [.tup] (nD a) = .ok (.bl false) := rfl
  have s : oisi CS [.str] (nD a) = .ok (.bl false) := rfl
  have i : oisi CS [.int] (nD a) = .ok (.bl true) := rfl
  have b : oisi CS [.bl] (nD a) = .ok (.bl false) := rfl
  have e := nat_eq a a
  rw [decide_eq_true rfl] at e
  unfold m_law_same
  rw [fn2]
  generalize nD a = A at *
  simp [var, t, s, i, b, e]
theorem plain_ok {n : Nat} (h : n < 1000000) : m_plain_number [.str (nS n), .int 6] = .ok (nD n) := by
  have l := nS_len h
  rw [plain_gen (Nat.le_trans l (by decide)), pn_nS h]
  rfl
theorem same_s (k : Nat) (x : String) : m_law_same (k + 1) [.str x, .str x] = .ok (.bl true) := by
  have t : oisi CS [.tup] (.str x) = .ok (.bl false) := rfl
  have s : oisi CS [.str] (.str x) = .ok (.bl true) := rfl
  have e : oeq (.str x) (.str x) = .ok (.bl true) := by
    show Res.ok (D.bl (x == x)) = _
    rw [beq_self_eq_true]
  unfold m_law_same
  rw [fn2]
  generalize D.str x = A at *
  simp [var, t, s, e]
theorem same_t {k : Nat} {ds : List D} (h : ∀ d ∈ ds, m_law_same k [d, d] = .ok (.bl true)) (hz : ds.length ≤ 100000) : m_law_same (k + 1) [.tup ds, .tup ds] = .ok (.bl true) := by
  have t : oisi CS [.tup] (.tup ds) = .ok (.bl true) := rfl
  have bl : blen (.tup ds) = .ok (nD ds.length) := blen_t ds
  have n1 : Py.one (nD ds.length) (nD ds.length) = .ok (.bl false) := by simp [nD]
  obtain ⟨V, hV⟩ : ∃ V : D, V = .tup ds := ⟨_, rfl⟩
  have lp := forR_inv (b := forB (gnm 2) (Py.ite (notT (tst (call (m_law_same k) (argC (bin oidx (var 0) (var 2)) (argC (bin oidx (var 1) (var 2)) argN))))) (ret (cst (.bl false))) skip)) (n := ds.length) (e := [some V, some V, none]) (fun _ E => ∃ o2, E = [some V, some V, o2]) ⟨none, rfl⟩ (by
    rintro i E hi ⟨o2, rfl⟩
    have ix : oidx V (.int (i : Int)) = .ok ds[i] := by
      rw [hV]
      exact oidx_t (k := i) (List.getElem?_eq_getElem hi)
    have q := h _ (List.getElem_mem hi)
    refine ⟨_, ?_, some (.int (i : Int)), rfl⟩
    rw [forB_eq, gnm_eq, lift_some, bind_ok]
    show (Py.ite _ _ skip) [some V, some V, some (.int (i : Int))] = _
    generalize ds[i] = X at *
    generalize (i : Int) = I at *
    simp [var, ix, q])
  obtain ⟨e', lp, o2, rfl⟩ := lp
  rw [← hV] at t bl ⊢
  have rg : irng1 (un blen (var 1)) [some V, some V, none] = .ok ((List.range ds.length).map fun i => .int ((i : Nat) : Int)) := irng1_nat (n := ds.length) bl (Nat.lt_of_le_of_lt hz (by decide))
  unfold m_law_same
  rw [fn2]
  have in1 : (seq (Py.ite (orT (notT (tst (un (oisi CS [.tup]) (var 0)))) (tst (bin Py.one (un blen (var 0)) (un blen (var 1))))) (ret (cst (.bl false))) skip)
    (seq (for_ (irng1 (un blen (var 1))) (gnm 2) (Py.ite (notT (tst (call (m_law_same k) (argC (bin oidx (var 0) (var 2)) (argC (bin oidx (var 1) (var 2)) argN))))) (ret (cst (.bl false))) skip))
    (ret (cst (.bl true))))) [some V, some V, none] = .ok (.ret (.bl true)) := by
    refine (chk_pass ?_).trans ((for_pass rg lp).trans rfl)
    generalize nD ds.length = LL at *
    simp [var, t, bl, n1]
  have tt : tst (un (oisi CS [.tup]) (var 1)) [some V, some V, none] = .ok true := by simp [var, t]
  show done (seq (Py.ite (tst (un (oisi CS [.tup]) (var 1))) _ skip) _ [some V, some V, none]) = _
  rw [seq_eq, ite_eq, tt, bind_ok, if_pos rfl, in1]
  rfl
theorem same_rD (k : Nat) {r : List Nat} (hz : r.length ≤ 100000) : m_law_same (k + 2) [rD r, rD r] = .ok (.bl true) := same_t (k := k + 1) (fun d hd => by
  obtain ⟨a, _, rfl⟩ := List.mem_map.mp hd
  exact same_n k a) (by rw [List.length_map]; exact hz)
/-! ### lines of a row -/
def Deed.nums : Deed → List Nat
  | .zero => []
  | .ones => []
  | .inv a => [a]
  | .and a b => [a, b]
  | .or a b => [a, b]
  | .xor a b => [a, b]
  | .shift a => [a]
  | .minus a => [a]
  | .add a b => [a, b]
  | .sub a b => [a, b]
  | .count p r ps => p :: r :: ps
theorem nums_lt {x : Deed} {k : Nat} (h : x.ok k) (hk : k ≤ 900000) : ∀ a ∈ x.nums, a < 1000000 := fun a ha => by
  cases x with
  | zero => cases ha
  | ones => cases ha
  | inv b => simp [Deed.nums] at ha; subst ha; have : a < k := h; omega
  | shift b => simp [Deed.nums] at ha; subst ha; have : a < k := h; omega
  | minus b => simp [Deed.nums] at ha; subst ha; have : a < k := h; omega
  | count p r ps =>
    obtain ⟨h1, h2, _, _, h5⟩ := h
    simp only [Deed.nums, List.mem_cons] at ha
    rcases ha with ha | ha | ha
    · omega
    · omega
    · have := h5 a ha
      omega
  | _ =>
    obtain ⟨h1, h2⟩ := h
    simp [Deed.nums] at ha
    omega
theorem nums_len {x : Deed} {k : Nat} (h : x.ok k) : x.nums.length ≤ 6 := by
  cases x with
  | count p r ps =>
    obtain ⟨_, _, _, h4, _⟩ := h
    simp [Deed.nums]
    omega
  | _ => simp [Deed.nums]
def Deed.isCnt : Deed → Bool
  | .count _ _ _ => true
  | _ => false
theorem deed_is {x : Deed} (h : x.isCnt = false) : x.d = .tup (.str x.name :: x.nums.map nD) := by
  cases x <;> first | rfl | cases h
/-! ### the words of a deed read -/
theorem below_ok {a m : Nat} (h : a < m) (h6 : a < 1000000) : m_number_below [.str (nS a), nD m] = .ok (.bl true) := by
  have p := plain_ok h6
  have on : onotN (nD a) = .ok (.bl true) := rfl
  have lt : olt (nD a) (nD m) = .ok (.bl true) := by
    show Res.ok (D.bl (decide ((a : Int) < (m : Int)))) = _
    rw [decide_eq_true (by omega)]
  unfold m_number_below
  rw [fn2]
  unfold b_number_below
  generalize D.str (nS a) = W at *
  generalize nD a = A at *
  generalize nD m = M at *
  simp [var, p, on, lt]
def wsD (x : Deed) : List D := (x.name :: x.nums.map nS).map D.str
theorem ws_at {x : Deed} {i : Nat} (hi : i < x.nums.length) : oidx (.lst (wsD x)) (.int ((1 + i : Nat) : Int)) = .ok (.str (nS (at1 x.nums i))) := oidx_l (k := 1 + i) (by
  unfold wsD at1
  rw [Nat.add_comm, List.map_cons, List.getElem?_cons_succ, List.map_map, List.getElem?_map, List.getElem?_eq_getElem hi, List.getD_eq_getElem?_getD, List.getElem?_eq_getElem hi]
  rfl)
theorem ws_len (x : Deed) : blen (.lst (wsD x)) = .ok (nD (x.nums.length + 1)) := by
  unfold wsD
  rw [lenN]
  simp
theorem irng2_1 {a : EM} {e : Env} {m : Nat} (h : a e = .ok (nD (m + 1))) (hm : m ≤ 200000) : irng2 (cst (.int 1)) a e = .ok ((List.range m).map fun i => .int ((1 + i : Nat) : Int)) := by
  show (a e >>= fun y => match (D.int 1), y with
    | .int m, .int n => if m.natAbs < B62 ∧ n.natAbs < B62 then Res.ok (rngL m n) else .stuck
    | _, _ => .stuck) = _
  rw [h, bind_ok]
  show (if (1 : Int).natAbs < B62 ∧ (((m + 1 : Nat) : Int)).natAbs < B62 then Res.ok (rngL 1 ((m + 1 : Nat) : Int)) else .stuck) = _
  have b : (((m + 1 : Nat) : Int)).natAbs < B62 := by
    rw [Int.natAbs_natCast]
    exact Nat.lt_of_le_of_lt (show m + 1 ≤ 200001 by omega) (by decide)
  rw [if_pos ⟨by decide, b⟩]
  unfold rngL
  have e1 : (((m + 1 : Nat) : Int) - 1).toNat = m := by omega
  rw [e1]
  refine congrArg Res.ok (List.map_congr_left fun i _ => ?_)
  first
  | rfl
  | (congr 1; omega)
theorem forL_same {b : D → Env → Res Fl} {e : Env} {I : Env → Prop} (h0 : I e) : ∀ {xs : List D}, (∀ x ∈ xs, ∀ e, I e → ∃ e', b x e = .ok (.next e') ∧ I e') → ∃ e', forL b xs e = .ok (.next e') ∧ I e' := fun {xs} h => by
  obtain ⟨e', h1, h2⟩ := forL_inv (b := b) (xs := xs) (e := e) (fun _ E => I E) 0 h0 fun i E hi hI => h _ (List.getElem_mem hi) E hI
  exact ⟨e', h1, h2⟩
def wwB : SM := (Py.ite (orT (tst (bin ogt (var 3) (var 2))) (notT (tst (call m_number_below (argC (bin oidx (var 0) (var 3)) (argC (var 1) argN)))))) (ret (var 3)) skip)
def wcB : SM := (seq (Py.ite (andT (tst (bin oeq (var 2) (cst (.int 1)))) (tst (bin onotin (bin oidx (var 0) (var 2)) (tupE (argC (cst (.str "2")) (argC (cst (.str "3")) (argC (cst (.str "5")) argN))))))) (ret (var 2)) skip)
  (seq (Py.ite (andT (tst (bin oeq (var 2) (cst (.int 2)))) (notT (tst (call m_number_below (argC (bin oidx (var 0) (var 2)) (argC (un bintx (bin oidx (var 0) (cst (.int 1)))) argN)))))) (ret (var 2)) skip)
  (Py.ite (orT (tst (bin ogt (var 2) (cst (.int 6)))) (andT (tst (bin ogt (var 2) (cst (.int 2)))) (notT (tst (call m_number_below (argC (bin oidx (var 0) (var 2)) (argC (var 1) argN))))))) (ret (var 2)) skip)))
theorem nS2 : nS 2 = "2" := by decide
theorem nS3 : nS 3 = "3" := by decide
theorem nS5 : nS 5 = "5" := by decide
theorem wrong_count_ok {p r m : Nat} {ps : List Nat} (h : (Deed.count p r ps).ok m) (hm : m ≤ 900000) : m_wrong_count [.lst (wsD (.count p r ps)), nD m] = .ok .non := by
  obtain ⟨hp, hr, h1, h4, ha⟩ := h
  have bl := ws_len (.count p r ps)
  change _ = Res.ok (nD (ps.length + 1 + 1 + 1)) at bl
  have rg : ∀ o : Option D, irng2 (cst (.int 1)) (un blen (var 0)) [some (.lst (wsD (.count p r ps))), some (nD m), o] = .ok ((List.range (ps.length + 1 + 1)).map fun i => .int ((1 + i : Nat) : Int)) := fun o => irng2_1 bl (by omega)
  have i1 : oidx (.lst (wsD (.count p r ps))) (.int 1) = .ok (.str (nS p)) := ws_at (x := .count p r ps) (i := 0) (by simp [Deed.nums])
  have ip : bintx (.str (nS p)) = .ok (nD p) := intx_n (by omega)
  have nin : (bin onotin (bin oidx (var 0) (var 2)) (tupE (argC (cst (.str "2")) (argC (cst (.str "3")) (argC (cst (.str "5")) argN))))) [some (.lst (wsD (.count p r ps))), some (nD m), some (.int 1)] = .ok (.bl false) := by
    rw [bin_eq, bin_eq]
    show ((oidx (.lst (wsD (.count p r ps))) (.int 1)) >>= fun x => tupE _ _ >>= fun y => onotin x y) = _
    rw [i1, bind_ok]
    rcases hp with rfl | rfl | rfl
    · rw [nS2]
      rfl
    · rw [nS3]
      rfl
    · rw [nS5]
      rfl
  have lp := forL_same (b := forB (gnm 2) wcB) (e := [some (.lst (wsD (.count p r ps))), some (nD m), none]) (I := fun E => ∃ o, E = [some (.lst (wsD (.count p r ps))), some (nD m), o]) ⟨none, rfl⟩ (xs := (List.range (ps.length + 1 + 1)).map fun i => .int ((1 + i : Nat) : Int)) (by
    rintro _ hx _ ⟨o, rfl⟩
    obtain ⟨i, hi, rfl⟩ := List.mem_map.mp hx
    have hi' : i < ps.length + 1 + 1 := List.mem_range.mp hi
    refine ⟨_, ?_, some (.int ((1 + i : Nat) : Int)), rfl⟩
    rw [forB_eq, gnm_eq, lift_some, bind_ok]
    show wcB [some (.lst (wsD (.count p r ps))), some (nD m), some (.int ((1 + i : Nat) : Int))] = _
    unfold wcB
    have hc : i = 0 ∨ i = 1 ∨ 2 ≤ i := by omega
    rcases hc with rfl | rfl | hc
    · have c1 : tst (bin oeq (var 2) (cst (.int 1))) [some (.lst (wsD (.count p r ps))), some (nD m), some (.int 1)] = .ok true := rfl
      have c2 : andT (tst (bin oeq (var 2) (cst (.int 1)))) (tst (bin onotin (bin oidx (var 0) (var 2)) (tupE (argC (cst (.str "2")) (argC (cst (.str "3")) (argC (cst (.str "5")) argN)))))) [some (.lst (wsD (.count p r ps))), some (nD m), some (.int 1)] = .ok false := by
        rw [andT_eq, c1, bind_ok, if_pos rfl, tst_eq, nin]
        rfl
      exact (chk_pass c2).trans rfl
    · have i2 : oidx (.lst (wsD (.count p r ps))) (.int 2) = .ok (.str (nS r)) := ws_at (x := .count p r ps) (i := 1) (by simp [Deed.nums])
      have nb := below_ok hr (show r < 1000000 by omega)
      show (seq _ (seq _ _)) [some (.lst (wsD (.count p r ps))), some (nD m), some (.int 2)] = _
      generalize D.lst (wsD (.count p r ps)) = WS at *
      generalize D.str (nS p) = P at *
      generalize D.str (nS r) = R at *
      generalize nD p = NP at *
      generalize nD m = M at *
      simp [var, i1, i2, ip, nb]
    · have hps : i - 2 < ps.length := by omega
      have ix : oidx (.lst (wsD (.count p r ps))) (.int ((1 + i : Nat) : Int)) = .ok (.str (nS ps[i - 2])) := by
        have := ws_at (x := .count p r ps) (i := i) (by simp [Deed.nums]; omega)
        rw [this]
        congr 3
        unfold at1
        show (p :: r :: ps).getD i 0 = _
        obtain ⟨j, rfl⟩ : ∃ j, i = j + 2 := ⟨i - 2, by omega⟩
        have hj : j < ps.length := by omega
        show (ps[j]?).getD 0 = ps[j + 2 - 2]
        rw [List.getElem?_eq_getElem hj]
        rfl
      have hx := ha _ (List.getElem_mem hps)
      have nb := below_ok hx (show ps[i - 2] < 1000000 by omega)
      have e1 : oeq (.int ((1 + i : Nat) : Int)) (.int 1) = .ok (.bl false) := by
        have := nat_eq (1 + i) 1
        rw [decide_eq_false (by omega)] at this
        exact this
      have e2 : oeq (.int ((1 + i : Nat) : Int)) (.int 2) = .ok (.bl false) := by
        have := nat_eq (1 + i) 2
        rw [decide_eq_false (by omega)] at this
        exact this
      have g6 : ogt (.int ((1 + i : Nat) : Int)) (.int 6) = .ok (.bl false) := by
        show Res.ok (D.bl (decide ((6 : Int) < ((1 + i : Nat) : Int)))) = _
        rw [decide_eq_false (by omega)]
      have g2 : ogt (.int ((1 + i : Nat) : Int)) (.int 2) = .ok (.bl true) := by
        show Res.ok (D.bl (decide ((2 : Int) < ((1 + i : Nat) : Int)))) = _
        rw [decide_eq_true (by omega)]
      generalize D.lst (wsD (.count p r ps)) = WS at *
      generalize D.str (nS ps[i - 2]) = R at *
      generalize D.int ((1 + i : Nat) : Int) = I at *
      generalize nD m = M at *
      simp [var, ix, nb, e1, e2, g6, g2])
  obtain ⟨e', lp, o, rfl⟩ := lp
  have lt : olt (nD (ps.length + 1 + 1 + 1)) (.int 4) = .ok (.bl false) := by
    show Res.ok (D.bl (decide (((ps.length + 1 + 1 + 1 : Nat) : Int) < 4))) = _
    rw [decide_eq_false (by omega)]
  unfold m_wrong_count
  rw [fn2]
  show done (seq (for_ (irng2 (cst (.int 1)) (un blen (var 0))) (gnm 2) wcB) _ [some (.lst (wsD (.count p r ps))), some (nD m), none]) = _
  refine (congrArg done ((for_pass (rg none) lp).trans ?_)).trans (done_ret .non)
  generalize D.lst (wsD (.count p r ps)) = WS at *
  generalize nD (ps.length + 1 + 1 + 1) = LL at *
  simp [var, bl, lt]
theorem name_size {x : Deed} (hc : x.isCnt = false) : onothas tab_SIZES (.str x.name) = .ok (.bl false) ∧ olook tab_SIZES (.str x.name) = .ok (nD x.nums.length) ∧ oeq (.str x.name) (.str "count") = .ok (.bl false) := by
  cases x <;> first | exact ⟨rfl, rfl, rfl⟩ | cases hc
theorem plain_lt {x : Deed} {m : Nat} (h : x.ok m) (hc : x.isCnt = false) : ∀ a ∈ x.nums, a < m := fun a ha => by
  cases x with
  | zero => cases ha
  | ones => cases ha
  | inv b => simp [Deed.nums] at ha; subst ha; exact h
  | shift b => simp [Deed.nums] at ha; subst ha; exact h
  | minus b => simp [Deed.nums] at ha; subst ha; exact h
  | count p r ps => cases hc
  | _ =>
    obtain ⟨h1, h2⟩ := h
    simp [Deed.nums] at ha
    omega
theorem wrong_ok {x : Deed} {m : Nat} (h : x.ok m) (hm : m ≤ 900000) : m_wrong_word [.lst (wsD x), nD m] = .ok .non := by
  have i0 : oidx (.lst (wsD x)) (.int 0) = .ok (.str x.name) := oidx_l (k := 0) rfl
  have tr : truthy (.lst (wsD x)) = .ok true := rfl
  by_cases hc : x.isCnt = true
  · cases x with
    | count p r ps =>
      have wc := wrong_count_ok h hm
      have c : oeq (.str (Deed.count p r ps).name) (.str "count") = .ok (.bl true) := rfl
      unfold m_wrong_word
      rw [fn2]
      unfold b_wrong_word
      generalize D.lst (wsD (.count p r ps)) = WS at *
      generalize D.str (Deed.count p r ps).name = NM at *
      generalize nD m = M at *
      simp [var, tr, i0, c, wc]
    | _ => cases hc
  · have hc' : x.isCnt = false := by simpa using hc
    obtain ⟨n1, n2, n3⟩ := name_size hc'
    have bl := ws_len x
    have ll := nums_len h
    have lt := plain_lt h hc'
    have lp := forL_same (b := forB (gnm 3) wwB) (e := [some (.lst (wsD x)), some (nD m), some (nD x.nums.length), none]) (I := fun E => ∃ o, E = [some (.lst (wsD x)), some (nD m), some (nD x.nums.length), o]) ⟨none, rfl⟩ (xs := (List.range x.nums.length).map fun i => .int ((1 + i : Nat) : Int)) (by
      rintro _ hx _ ⟨o, rfl⟩
      obtain ⟨i, hi, rfl⟩ := List.mem_map.mp hx
      have hi' := List.mem_range.mp hi
      have ix := ws_at hi'
      have hb := lt _ (at1_mem hi')
      have nb := below_ok hb (show at1 x.nums i < 1000000 by omega)
      have g : ogt (.int ((1 + i : Nat) : Int)) (nD x.nums.length) = .ok (.bl false) := by
        show Res.ok (D.bl (decide ((x.nums.length : Int) < ((1 + i : Nat) : Int)))) = _
        rw [decide_eq_false (by omega)]
      refine ⟨_, ?_, some (.int ((1 + i : Nat) : Int)), rfl⟩
      rw [forB_eq, gnm_eq, lift_some, bind_ok]
      show wwB [some (.lst (wsD x)), some (nD m), some (nD x.nums.length), some (.int ((1 + i : Nat) : Int))] = _
      unfold wwB
      generalize D.lst (wsD x) = WS at *
      generalize D.str (nS (at1 x.nums i)) = R at *
      generalize D.int ((1 + i : Nat) : Int) = I at *
      generalize nD x.nums.length = LL at *
      generalize nD m = M at *
      simp [var, ix, nb, g])
    obtain ⟨e', lp, o, rfl⟩ := lp
    have rg : irng2 (cst (.int 1)) (un blen (var 0)) [some (.lst (wsD x)), some (nD m), some (nD x.nums.length), none] = .ok ((List.range x.nums.length).map fun i => .int ((1 + i : Nat) : Int)) := irng2_1 bl (by omega)
    have le : ole (nD (x.nums.length + 1)) (nD x.nums.length) = .ok (.bl false) := by
      show Res.ok (D.bl (decide (((x.nums.length + 1 : Nat) : Int) ≤ (x.nums.length : Int)))) = _
      rw [decide_eq_false (by omega)]
    unfold m_wrong_word
    rw [fn2]
    show done (seq (Py.ite _ _ skip) (seq (Py.ite _ _ skip) (seq (Py.ite _ _ skip) (seq (asg (gnm 2) _) (seq (for_ (irng2 (cst (.int 1)) (un blen (var 0))) (gnm 3) wwB) _)))) [some (.lst (wsD x)), some (nD m), none, none]) = _
    refine (congrArg done ((chk_pass ?_).trans ((chk_pass ?_).trans ((chk_pass ?_).trans ((asg_pass (d := nD x.nums.length) ?_).trans ((for_pass rg lp).trans ?_)))))).trans (done_ret .non)
    · generalize D.lst (wsD x) = WS at *
      simp [var, tr]
    · generalize D.lst (wsD x) = WS at *
      generalize D.str x.name = NM at *
      simp [var, i0, n3]
    · generalize D.lst (wsD x) = WS at *
      generalize D.str x.name = NM at *
      simp [var, i0, n1]
    · generalize D.lst (wsD x) = WS at *
      generalize D.str x.name = NM at *
      generalize nD x.nums.length = LL at *
      simp [var, i0, n2]
    · generalize D.lst (wsD x) = WS at *
      generalize nD (x.nums.length + 1) = L1 at *
      generalize nD x.nums.length = LL at *
      simp [var, bl, le]
theorem told_ok {x : Deed} {m : Nat} (h : x.ok m) (hm : m ≤ 900000) : m_told_deed [.lst (wsD x)] = .ok x.d := by
  have i0 : oidx (.lst (wsD x)) (.int 0) = .ok (.str x.name) := oidx_l (k := 0) rfl
  have ll := nums_len h
  have lt := nums_lt h hm
  have s1 : oslc (.lst (wsD x)) (some 1) none = .ok (.lst ((x.nums.map nS).map D.str)) := slc1 _ _
  have lc : lcE (iseq (slc (var 0) (some (cst (.int 1))) none)) [2] (gnm 2) yes (un bintx (var 2)) [some (.lst (wsD x)), none, none] = .ok (.lst (x.nums.map nD)) := by
    refine lc_mapI (ys := x.nums) (k := fun a => .str (nS a)) (h := nD) ?_ (Nat.le_trans (show _ ≤ 6 by omega) (by decide)) fun a ha => ?_
    · show (slc (var 0) (some (cst (.int 1))) none [some (.lst (wsD x)), none, none] >>= fun y => match y with | .lst xs => Res.ok xs | .tup xs => .ok xs | _ => .stuck) = _
      have : slc (var 0) (some (cst (.int 1))) none [some (.lst (wsD x)), none, none] = .ok (.lst ((x.nums.map nS).map D.str)) := s1
      rw [this, bind_ok, List.map_map]
      rfl
    · have q := intx_n (lt a ha)
      generalize D.str (nS a) = A at *
      exact ⟨_, rfl, by simp only [wipe]; simp [var, q]⟩
  unfold m_told_deed
  rw [fn1]
  unfold b_told_deed
  refine (congrArg done (asg_pass lc)).trans ?_
  show done (seq _ _ [some (.lst (wsD x)), some (.lst (x.nums.map nD)), none]) = _
  by_cases hc : x.isCnt = true
  · cases x with
    | count p r ps =>
      have c : oeq (.str (Deed.count p r ps).name) (.str "count") = .ok (.bl true) := rfl
      have j0 : oidx (.lst ((Deed.count p r ps).nums.map nD)) (.int 0) = .ok (nD p) := oidx_l (k := 0) rfl
      have j1 : oidx (.lst ((Deed.count p r ps).nums.map nD)) (.int 1) = .ok (nD r) := oidx_l (k := 1) rfl
      have s2 : oslc (.lst ((Deed.count p r ps).nums.map nD)) (some 2) none = .ok (.lst (ps.map nD)) := by
        show Res.ok (D.lst (cut (nD p :: nD r :: ps.map nD) (some ((2 : Nat) : Int)) none)) = _
        rw [cut_from _ (k := 2) (by simp)]
        rfl
      have bt : btuple (.lst (ps.map nD)) = .ok (.tup (ps.map nD)) := rfl
      show _ = Res.ok (D.tup [.str "count", nD p, nD r, .tup (ps.map nD)])
      generalize D.lst (wsD (.count p r ps)) = WS at *
      generalize D.lst ((Deed.count p r ps).nums.map nD) = NV at *
      generalize D.str (Deed.count p r ps).name = NM at *
      generalize D.lst (ps.map nD) = PL at *
      generalize D.tup (ps.map nD) = PT at *
      generalize nD p = P at *
      generalize nD r = R at *
      have z : (4 : Nat) ≤ SZ := by decide
      simp [var, i0, c, j0, j1, slc_eq, bnd_none, bnd_some, s2, bt, chk, z]
    | _ => cases hc
  · have hc' : x.isCnt = false := by simpa using hc
    obtain ⟨_, _, n3⟩ := name_size hc'
    rw [deed_is hc']
    refine (congrArg done (chk_pass ?_)).trans ?_
    · generalize D.lst (wsD x) = WS at *
      generalize D.str x.name = NM at *
      simp [var, i0, n3]
    · rw [ret_eq, tupE_eq, argC_eq]
      show done ((((oidx (.lst (wsD x)) (.int 0)) >>= fun d => (Res.ok (x.nums.map nD ++ [])) >>= fun ds => Res.ok (d :: ds)) >>= fun xs => chk xs.length (D.tup xs)) >>= _) = _
      rw [i0, bind_ok, bind_ok, bind_ok, List.append_nil, chk_ok (by
        rw [List.length_cons, List.length_map]
        exact Nat.le_trans (show _ ≤ 10 by omega) (by decide))]
      rfl
end Py.U
namespace Py.U
open PySem
/-! ### deeds read, of any line -/
def mkD (w : String) : List Nat → Option Deed
  | [] => if w = "zero" then some .zero else if w = "ones" then some .ones else none
  | [a] => if w = "not" then some (.inv a) else if w = "shift" then some (.shift a) else if w = "minus" then some (.minus a) else none
  | [a, b] => if w = "and" then some (.and a b) else if w = "or" then some (.or a b) else if w = "xor" then some (.xor a b) else if w = "add" then some (.add a b) else if w = "sub" then some (.sub a b) else none
  | p :: r :: q :: ps => if w = "count" ∧ (p = 2 ∨ p = 3 ∨ p = 5) ∧ r < p ∧ ps.length ≤ 3 then some (.count p r (q :: ps)) else none
def Deed.args : Deed → List Nat
  | .count _ _ ps => ps
  | x => x.nums
def dP (k : Nat) : List String → Option Deed
  | [] => none
  | w :: r => match pns r with
    | none => none
    | some ns => match mkD w ns with
      | none => none
      | some x => if ∀ a ∈ x.args, a < k then some x else none
theorem mkD_some {w : String} {ns : List Nat} {x : Deed} (h : mkD w ns = some x) : w = x.name ∧ ns = x.nums ∧ ∀ k, (∀ a ∈ x.args, a < k) → x.ok k := by
  match ns with
  | [] =>
    rw [mkD] at h
    split at h
    · cases h
      exact ⟨by assumption, rfl, fun k _ => trivial⟩
    · split at h
      · cases h
        exact ⟨by assumption, rfl, fun k _ => trivial⟩
      · cases h
  | [a] =>
    rw [mkD] at h
    split at h
    · cases h
      exact ⟨by assumption, rfl, fun k z => z a (by simp [Deed.args, Deed.nums])⟩
    · split at h
      · cases h
        exact ⟨by assumption, rfl, fun k z => z a (by simp [Deed.args, Deed.nums])⟩
      · split at h
        · cases h
          exact ⟨by assumption, rfl, fun k z => z a (by simp [Deed.args, Deed.nums])⟩
        · cases h
  | [a, b] =>
    rw [mkD] at h
    split at h
    · cases h
      exact ⟨by assumption, rfl, fun k z => ⟨z a (by simp [Deed.args, Deed.nums]), z b (by simp [Deed.args, Deed.nums])⟩⟩
    · split at h
      · cases h
        exact ⟨by assumption, rfl, fun k z => ⟨z a (by simp [Deed.args, Deed.nums]), z b (by simp [Deed.args, Deed.nums])⟩⟩
      · split at h
        · cases h
          exact ⟨by assumption, rfl, fun k z => ⟨z a (by simp [Deed.args, Deed.nums]), z b (by simp [Deed.args, Deed.nums])⟩⟩
        · split at h
          · cases h
            exact ⟨by assumption, rfl, fun k z => ⟨z a (by simp [Deed.args, Deed.nums]), z b (by simp [Deed.args, Deed.nums])⟩⟩
          · split at h
            · cases h
              exact ⟨by assumption, rfl, fun k z => ⟨z a (by simp [Deed.args, Deed.nums]), z b (by simp [Deed.args, Deed.nums])⟩⟩
            · cases h
  | p :: r :: q :: ps =>
    rw [mkD] at h
    split at h
    · rename_i hh
      cases h
      exact ⟨hh.1, rfl, fun k z => ⟨hh.2.1, hh.2.2.1, by simp, by simp; omega, z⟩⟩
    · cases h
theorem dP_some {k : Nat} {ws : List String} {x : Deed} (h : dP k ws = some x) : ws.map D.str = wsD x ∧ ws = x.name :: x.nums.map nS ∧ x.ok k := by
  cases ws with
  | nil => cases h
  | cons w r =>
    rw [dP] at h
    cases hp : pns r with
    | none =>
      rw [hp] at h
      cases h
    | some ns =>
      rw [hp] at h
      dsimp only at h
      cases hm : mkD w ns with
      | none =>
        rw [hm] at h
        cases h
      | some y =>
        rw [hm] at h
        dsimp only at h
        by_cases ha : ∀ a ∈ y.args, a < k
        · rw [if_pos ha] at h
          cases h
          obtain ⟨e1, e2, e3⟩ := mkD_some hm
          obtain ⟨e4, _⟩ := pns_some hp
          have e : w :: r = x.name :: x.nums.map nS := by rw [e4, e1, e2]
          exact ⟨by rw [e]; rfl, e, e3 k ha⟩
        · rw [if_neg ha] at h
          cases h
def bel (m : Nat) (w : String) : Bool := match pn w with
  | some a => decide (a < m)
  | none => false
theorem below_gen {w : String} {m : Nat} (hs : w.length ≤ SZ) : m_number_below [.str w, nD m] = .ok (.bl (bel m w)) := by
  have p := plain_gen hs
  unfold m_number_below bel
  rw [fn2]
  unfold b_number_below
  cases h : pn w with
  | none =>
    rw [h] at p
    change _ = Res.ok D.non at p
    have on : onotN .non = .ok (.bl false) := rfl
    generalize D.str w = W at *
    generalize nD m = M at *
    simp [var, p, on]
  | some a =>
    rw [h] at p
    change _ = Res.ok (nD a) at p
    have on : onotN (nD a) = .ok (.bl true) := rfl
    have lt := lt_n a m
    dsimp only
    generalize D.str w = W at *
    generalize nD a = A at *
    generalize nD m = M at *
    simp [var, p, on, lt]
theorem bel_pn {m : Nat} {w : String} (h : bel m w = true) : ∃ a, pn w = some a ∧ a < m := by
  unfold bel at h
  split at h
  · rename_i a ha
    exact ⟨a, ha, of_decide_eq_true h⟩
  · cases h
/-- a loop that ends the def at the first place that is not good -/
theorem forL_at {b : D → Env → Res Fl} {I : Env → Prop} {good : Nat → Prop} {P : D → Prop} {g : Nat → D} {n : Nat} (hs : ∀ i, i < n → (∀ j, j < i → good j) → ∀ e, I e → (good i → ∃ e', b (g i) e = .ok (.next e') ∧ I e') ∧ (¬ good i → ∃ d, P d ∧ b (g i) e = .ok (.ret d))) :
    ∀ (m k : Nat), k + m = n → (∀ j, j < k → good j) → ∀ e, I e → ((∀ i, i < n → good i) ∧ ∃ e', forL b ((List.range' k m).map g) e = .ok (.next e') ∧ I e') ∨ (∃ d, P d ∧ forL b ((List.range' k m).map g) e = .ok (.ret d))
  | 0, k, hk, hj, e, he => Or.inl ⟨fun i hi => hj i (by omega), e, rfl, he⟩
  | m + 1, k, hk, hj, e, he => by
    obtain ⟨s1, s2⟩ := hs k (by omega) hj e he
    by_cases hg : good k
    · obtain ⟨e', q, hI⟩ := s1 hg
      have e1 : forL b ((List.range' k (m + 1)).map g) e = forL b ((List.range' (k + 1) m).map g) e' := by
        show (b (g k) e >>= _) = _
        rw [q]
        rfl
      rw [e1]
      exact forL_at hs m (k + 1) (by omega) (fun j hjk => by
        by_cases hjk2 : j = k
        · rw [hjk2]
          exact hg
        · exact hj j (by omega)) e' hI
    · obtain ⟨d, hd, q⟩ := s2 hg
      refine Or.inr ⟨d, hd, ?_⟩
      show (b (g k) e >>= _) = _
      rw [q]
      rfl
def IntD (d : D) : Prop := ∃ i : Int, d = .int i
theorem w_at {w : String} {r : List String} {i : Nat} (hi : i < r.length) : oidx (.lst ((w :: r).map D.str)) (.int ((1 + i : Nat) : Int)) = .ok (.str r[i]) := oidx_l (k := 1 + i) (by
  rw [Nat.add_comm, List.map_cons, List.getElem?_cons_succ, List.getElem?_map, List.getElem?_eq_getElem hi]
  rfl)
section
variable {w : String} {r : List String} {k : Nat} (hk : k ≤ 900000) (hl : r.length ≤ 200000) (hs : ∀ v ∈ w :: r, v.length ≤ SZ)
include hk hl hs
theorem plain_any {sz : Nat} (hn : onothas tab_SIZES (.str w) = .ok (.bl false)) (ho : olook tab_SIZES (.str w) = .ok (nD sz)) (hc : oeq (.str w) (.str "count") = .ok (.bl false)) :
    (∃ d, IntD d ∧ m_wrong_word [.lst ((w :: r).map D.str), nD k] = .ok d) ∨ (m_wrong_word [.lst ((w :: r).map D.str), nD k] = .ok .non ∧ r.length = sz ∧ ∀ v ∈ r, ∃ a, pn v = some a ∧ a < k) := by
  have i0 : oidx (.lst ((w :: r).map D.str)) (.int 0) = .ok (.str w) := oidx_l (k := 0) rfl
  have tr : truthy (.lst ((w :: r).map D.str)) = .ok true := rfl
  have bl : blen (.lst ((w :: r).map D.str)) = .ok (nD (r.length + 1)) := by
    rw [lenN]
    simp
  obtain ⟨L, hL⟩ : ∃ L, L = D.lst ((w :: r).map D.str) := ⟨_, rfl⟩
  have at' : ∀ {i : Nat} (hi : i < r.length), oidx L (.int ((1 + i : Nat) : Int)) = .ok (.str r[i]) := fun hi => by
    rw [hL]
    exact w_at hi
  rw [← hL] at i0 tr bl ⊢
  have lp := forL_at (b := forB (gnm 3) wwB) (I := fun E => ∃ o, E = [some L, some (nD k), some (nD sz), o]) (good := fun i => i < sz ∧ ∃ hi : i < r.length, bel k r[i] = true) (P := IntD) (g := fun i => .int ((1 + i : Nat) : Int)) (n := r.length) (by
    rintro i hi _ _ ⟨o, rfl⟩
    have ix := at' hi
    have nb := below_gen (w := r[i]) (m := k) (hs _ (List.mem_cons_of_mem _ (List.getElem_mem hi)))
    have g : ogt (.int ((1 + i : Nat) : Int)) (nD sz) = .ok (.bl (decide (sz < 1 + i))) := gt_n (1 + i) sz
    have e1 : forB (gnm 3) wwB (.int ((1 + i : Nat) : Int)) [some L, some (nD k), some (nD sz), o] = wwB [some L, some (nD k), some (nD sz), some (.int ((1 + i : Nat) : Int))] := by
      rw [forB_eq, gnm_eq, lift_some, bind_ok]
      rfl
    rw [e1]
    unfold wwB
    refine ⟨fun ⟨h1, _, h2⟩ => ⟨_, ?_, some (.int ((1 + i : Nat) : Int)), rfl⟩, fun hn => ⟨.int ((1 + i : Nat) : Int), ⟨_, rfl⟩, ?_⟩⟩
    · rw [decide_eq_false (by omega)] at g
      rw [h2] at nb
      generalize D.str r[i] = R at *
      generalize D.int ((1 + i : Nat) : Int) = I at *
      generalize nD sz = LL at *
      generalize nD k = M at *
      simp [var, ix, nb, g]
    · by_cases h1 : i < sz
      · have h2 : bel k r[i] = false := by
          rw [Bool.eq_false_iff]
          exact fun z => hn ⟨h1, hi, z⟩
        rw [decide_eq_false (by omega)] at g
        rw [h2] at nb
        generalize D.str r[i] = R at *
        generalize D.int ((1 + i : Nat) : Int) = I at *
        generalize nD sz = LL at *
        generalize nD k = M at *
        simp [var, ix, nb, g]
      · rw [decide_eq_true (by omega)] at g
        generalize D.int ((1 + i : Nat) : Int) = I at *
        generalize nD sz = LL at *
        generalize nD k = M at *
        simp [var, g]) r.length 0 (by omega) (fun j hj => absurd hj (by omega)) [some L, some (nD k), some (nD sz), none] ⟨none, rfl⟩
  rw [← List.range_eq_range'] at lp
  have rg : irng2 (cst (.int 1)) (un blen (var 0)) [some L, some (nD k), some (nD sz), none] = .ok ((List.range r.length).map fun i => .int ((1 + i : Nat) : Int)) := irng2_1 bl (by omega)
  have c1 : notT (tst (var 0)) [some L, some (nD k), none, none] = .ok false := by simp [var, tr]
  have c2 : tst (bin oeq (bin oidx (var 0) (cst (.int 0))) (cst (.str "count"))) [some L, some (nD k), none, none] = .ok false := by
    generalize D.str w = NM at *
    simp [var, i0, hc]
  have c3 : tst (un (onothas tab_SIZES) (bin oidx (var 0) (cst (.int 0)))) [some L, some (nD k), none, none] = .ok false := by
    generalize D.str w = NM at *
    simp [var, i0, hn]
  have c4 : un (olook tab_SIZES) (bin oidx (var 0) (cst (.int 0))) [some L, some (nD k), none, none] = .ok (nD sz) := by
    generalize D.str w = NM at *
    generalize nD sz = SS at *
    simp [var, i0, ho]
  have body : m_wrong_word [L, nD k] = done ((seq (for_ (irng2 (cst (.int 1)) (un blen (var 0))) (gnm 3) wwB) (ret (ifE (tst (bin ole (un blen (var 0)) (var 2))) (un blen (var 0)) (cst .non)))) [some L, some (nD k), some (nD sz), none]) := by
    unfold m_wrong_word
    rw [fn2]
    show done (seq (Py.ite _ _ skip) (seq (Py.ite _ _ skip) (seq (Py.ite _ _ skip) (seq (asg (gnm 2) _) (seq (for_ (irng2 (cst (.int 1)) (un blen (var 0))) (gnm 3) wwB) _)))) [some L, some (nD k), none, none]) = _
    rw [chk_pass c1, chk_pass c2, chk_pass c3, asg_pass c4]
    rfl
  rw [body]
  rcases lp with ⟨ga, e', z, o, rfl⟩ | ⟨d, hd, z⟩
  · rw [for_pass rg z]
    have le := le_n (r.length + 1) sz
    by_cases hls : r.length + 1 ≤ sz
    · rw [decide_eq_true hls] at le
      refine Or.inl ⟨nD (r.length + 1), ⟨_, rfl⟩, ?_⟩
      generalize nD (r.length + 1) = L1 at *
      generalize nD sz = SS at *
      simp [var, bl, le]
    · rw [decide_eq_false hls] at le
      refine Or.inr ⟨?_, ?_, ?_⟩
      · generalize nD (r.length + 1) = L1 at *
        generalize nD sz = SS at *
        simp [var, bl, le]
      · by_cases h0 : r.length = 0
        · omega
        · have := (ga (r.length - 1) (by omega)).1
          omega
      · intro v hv
        obtain ⟨i, hi, rfl⟩ := List.mem_iff_getElem.mp hv
        obtain ⟨_, _, h⟩ := ga i hi
        exact bel_pn h
  · rw [for_ret rg z]
    exact Or.inl ⟨d, hd, rfl⟩
end
end Py.U
namespace Py.U
open PySem
theorem mem_strs (w : String) : ∀ ws : List String, mem (.str w) (ws.map D.str) = decide (w ∈ ws)
  | [] => rfl
  | v :: r => by
    show ((v == w) || mem (.str w) (r.map D.str)) = _
    rw [mem_strs w r]
    by_cases h : v = w
    · subst h
      simp
    · have h2 : (v == w) = false := beq_eq_false_iff_ne.mpr h
      rw [h2]
      have : (w ∈ v :: r) ↔ w ∈ r := by
        rw [List.mem_cons]
        exact ⟨fun z => z.elim (fun e => absurd e.symm h) id, .inr⟩
      simp [this]
theorem flat_strs (ws : List String) : (ws.map D.str).all flatD = true := by
  rw [List.all_map, List.all_eq_true]
  intro w _
  rfl
theorem in_strs (w : String) (ws : List String) : oin (.str w) (.tup (ws.map D.str)) = .ok (.bl (decide (w ∈ ws))) := by
  show (if (flatD (.str w) && (ws.map D.str).all flatD) = true then Res.ok (D.bl (mem (.str w) (ws.map D.str))) else .stuck) = _
  rw [flat_strs, mem_strs]
  rfl
theorem nin_strs (w : String) (ws : List String) : onotin (.str w) (.tup (ws.map D.str)) = .ok (.bl (!decide (w ∈ ws))) := by
  show (if (flatD (.str w) && (ws.map D.str).all flatD) = true then Res.ok (D.bl (!mem (.str w) (ws.map D.str))) else .stuck) = _
  rw [flat_strs, mem_strs]
  rfl
def vv (s : String) : Nat := (pn s).getD 0
theorem prm_v {s : String} (h : s ∈ ["2", "3", "5"]) : pn s = some (vv s) ∧ (vv s = 2 ∨ vv s = 3 ∨ vv s = 5) ∧ s.length ≤ 6 := by
  have key : ∀ p : Nat, p < 1000000 → s = nS p → pn s = some p ∧ vv s = p ∧ s.length ≤ 6 := fun p hp e => by
    have q := pn_nS hp
    rw [← e] at q
    refine ⟨q, ?_, by rw [e]; exact nS_len hp⟩
    unfold vv
    rw [q]
    rfl
  simp only [List.mem_cons, List.not_mem_nil, or_false] at h
  rcases h with rfl | rfl | rfl
  · obtain ⟨a, b, c⟩ := key 2 (by omega) nS2.symm
    exact ⟨by rw [b]; exact a, .inl b, c⟩
  · obtain ⟨a, b, c⟩ := key 3 (by omega) nS3.symm
    exact ⟨by rw [b]; exact a, .inr (.inl b), c⟩
  · obtain ⟨a, b, c⟩ := key 5 (by omega) nS5.symm
    exact ⟨by rw [b]; exact a, .inr (.inr b), c⟩
theorem pn_intx {s : String} {a : Nat} (h : pn s = some a) : bintx (.str s) = .ok (nD a) := by
  obtain ⟨e, l⟩ := pn_some h
  rw [e]
  exact intx_n l
def cGood (k : Nat) (r : List String) (i : Nat) : Prop := ∀ hi : i < r.length, (i = 0 → r[i] ∈ ["2", "3", "5"]) ∧ (i = 1 → bel (vv (r.getD 0 "")) r[i] = true) ∧ (2 ≤ i → i ≤ 5 ∧ bel k r[i] = true)
section
variable {r : List String} {k : Nat} (hl : r.length ≤ 200000) (hs : ∀ v ∈ "count" :: r, v.length ≤ SZ)
include hl hs
theorem count_any : (∃ d, IntD d ∧ m_wrong_word [.lst (("count" :: r).map D.str), nD k] = .ok d) ∨ (m_wrong_word [.lst (("count" :: r).map D.str), nD k] = .ok .non ∧ 3 ≤ r.length ∧ ∀ i, i < r.length → cGood k r i) := by
  have i0 : oidx (.lst (("count" :: r).map D.str)) (.int 0) = .ok (.str "count") := oidx_l (k := 0) rfl
  have tr : truthy (.lst (("count" :: r).map D.str)) = .ok true := rfl
  have hc : oeq (.str "count") (.str "count") = .ok (.bl true) := rfl
  have bl : blen (.lst (("count" :: r).map D.str)) = .ok (nD (r.length + 1)) := by
    rw [lenN]
    simp
  obtain ⟨L, hL⟩ : ∃ L, L = D.lst (("count" :: r).map D.str) := ⟨_, rfl⟩
  have at' : ∀ {i : Nat} (hi : i < r.length), oidx L (.int ((1 + i : Nat) : Int)) = .ok (.str r[i]) := fun hi => by
    rw [hL]
    exact w_at hi
  rw [← hL] at i0 tr bl ⊢
  have lp := forL_at (b := forB (gnm 2) wcB) (I := fun E => ∃ o, E = [some L, some (nD k), o]) (good := cGood k r) (P := IntD) (g := fun i => .int ((1 + i : Nat) : Int)) (n := r.length) (by
    rintro i hi prev _ ⟨o, rfl⟩
    have ix := at' hi
    have e1 : forB (gnm 2) wcB (.int ((1 + i : Nat) : Int)) [some L, some (nD k), o] = wcB [some L, some (nD k), some (.int ((1 + i : Nat) : Int))] := by
      rw [forB_eq, gnm_eq, lift_some, bind_ok]
      rfl
    have q1 : oeq (.int ((1 + i : Nat) : Int)) (.int 1) = .ok (.bl (decide (1 + i = 1))) := nat_eq (1 + i) 1
    have q2 : oeq (.int ((1 + i : Nat) : Int)) (.int 2) = .ok (.bl (decide (1 + i = 2))) := nat_eq (1 + i) 2
    have g6 : ogt (.int ((1 + i : Nat) : Int)) (.int 6) = .ok (.bl (decide (6 < 1 + i))) := gt_n (1 + i) 6
    have g2 : ogt (.int ((1 + i : Nat) : Int)) (.int 2) = .ok (.bl (decide (2 < 1 + i))) := gt_n (1 + i) 2
    rw [e1]
    unfold wcB
    have hcs : i = 0 ∨ i = 1 ∨ 2 ≤ i := by omega
    rcases hcs with rfl | rfl | h2
    · have ni := nin_strs r[0] ["2", "3", "5"]
      change onotin _ (.tup [.str "2", .str "3", .str "5"]) = _ at ni
      rw [decide_eq_true (by omega)] at q1
      rw [decide_eq_false (by omega)] at q2
      rw [decide_eq_false (by omega)] at g6 g2
      refine ⟨fun hg => ⟨_, ?_, some (.int ((1 + 0 : Nat) : Int)), rfl⟩, fun hn => ⟨.int ((1 + 0 : Nat) : Int), ⟨_, rfl⟩, ?_⟩⟩
      · have hm := (hg hi).1 rfl
        rw [decide_eq_true hm] at ni
        generalize D.str r[0] = R at *
        generalize D.int ((1 + 0 : Nat) : Int) = I at *
        generalize nD k = M at *
        simp [var, ix, ni, q1, q2, g6, g2]
      · have hm : ¬ r[0] ∈ ["2", "3", "5"] := fun z => hn fun _ => ⟨fun _ => z, fun h => absurd h (by omega), fun h => absurd h (by omega)⟩
        rw [decide_eq_false hm] at ni
        generalize D.str r[0] = R at *
        generalize D.int ((1 + 0 : Nat) : Int) = I at *
        generalize nD k = M at *
        simp [var, ix, ni, q1]
    · have h0 : 0 < r.length := by omega
      have hm := (prev 0 (by omega) h0).1 rfl
      obtain ⟨p1, p2, p3⟩ := prm_v hm
      have it := pn_intx p1
      have ix0 : oidx L (.int 1) = .ok (.str r[0]) := at' h0
      have er : r.getD 0 "" = r[0] := by
        rw [List.getD_eq_getElem?_getD, List.getElem?_eq_getElem h0]
        rfl
      have nb := below_gen (w := r[1]) (m := vv r[0]) (hs _ (List.mem_cons_of_mem _ (List.getElem_mem hi)))
      rw [decide_eq_false (by omega)] at q1
      rw [decide_eq_true (by omega)] at q2
      rw [decide_eq_false (by omega)] at g6 g2
      refine ⟨fun hg => ⟨_, ?_, some (.int ((1 + 1 : Nat) : Int)), rfl⟩, fun hn => ⟨.int ((1 + 1 : Nat) : Int), ⟨_, rfl⟩, ?_⟩⟩
      · have hb := (hg hi).2.1 rfl
        rw [er] at hb
        rw [hb] at nb
        generalize D.str r[0] = R0 at *
        generalize D.str r[1] = R at *
        generalize D.int ((1 + 1 : Nat) : Int) = I at *
        generalize nD (vv r[0]) = V at *
        generalize nD k = M at *
        simp [var, ix, ix0, it, nb, q1, q2, g6, g2]
      · have hb : bel (vv r[0]) r[1] = false := by
          rw [Bool.eq_false_iff]
          exact fun z => hn fun _ => ⟨fun h => absurd h (by omega), fun _ => by rw [er]; exact z, fun h => absurd h (by omega)⟩
        rw [hb] at nb
        generalize D.str r[0] = R0 at *
        generalize D.str r[1] = R at *
        generalize D.int ((1 + 1 : Nat) : Int) = I at *
        generalize nD (vv r[0]) = V at *
        generalize nD k = M at *
        simp [var, ix, ix0, it, nb, q1, q2]
    · have nb := below_gen (w := r[i]) (m := k) (hs _ (List.mem_cons_of_mem _ (List.getElem_mem hi)))
      rw [decide_eq_false (by omega)] at q1
      rw [decide_eq_false (by omega)] at q2
      rw [decide_eq_true (by omega)] at g2
      refine ⟨fun hg => ⟨_, ?_, some (.int ((1 + i : Nat) : Int)), rfl⟩, fun hn => ⟨.int ((1 + i : Nat) : Int), ⟨_, rfl⟩, ?_⟩⟩
      · obtain ⟨h5, hb⟩ := (hg hi).2.2 h2
        rw [hb] at nb
        rw [decide_eq_false (by omega)] at g6
        generalize D.str r[i] = R at *
        generalize D.int ((1 + i : Nat) : Int) = I at *
        generalize nD k = M at *
        simp [var, ix, nb, q1, q2, g6, g2]
      · by_cases h5 : i ≤ 5
        · have hb : bel k r[i] = false := by
            rw [Bool.eq_false_iff]
            exact fun z => hn fun _ => ⟨fun h => absurd h (by omega), fun h => absurd h (by omega), fun _ => ⟨h5, z⟩⟩
          rw [hb] at nb
          rw [decide_eq_false (by omega)] at g6
          generalize D.str r[i] = R at *
          generalize D.int ((1 + i : Nat) : Int) = I at *
          generalize nD k = M at *
          simp [var, ix, nb, q1, q2, g6, g2]
        · rw [decide_eq_true (by omega)] at g6
          generalize D.int ((1 + i : Nat) : Int) = I at *
          generalize nD k = M at *
          simp [var, q1, q2, g6]) r.length 0 (by omega) (fun j hj => absurd hj (by omega)) [some L, some (nD k), none] ⟨none, rfl⟩
  rw [← List.range_eq_range'] at lp
  have rg : irng2 (cst (.int 1)) (un blen (var 0)) [some L, some (nD k), none] = .ok ((List.range r.length).map fun i => .int ((1 + i : Nat) : Int)) := irng2_1 bl (by omega)
  have wc : m_wrong_word [L, nD k] = m_wrong_count [L, nD k] ∨ True := .inr trivial
  have cnt : (∃ d, IntD d ∧ m_wrong_count [L, nD k] = .ok d) ∨ (m_wrong_count [L, nD k] = .ok .non ∧ 3 ≤ r.length ∧ ∀ i, i < r.length → cGood k r i) := by
    have body : m_wrong_count [L, nD k] = done ((seq (for_ (irng2 (cst (.int 1)) (un blen (var 0))) (gnm 2) wcB) (ret (ifE (tst (bin olt (un blen (var 0)) (cst (.int 4)))) (un blen (var 0)) (cst .non)))) [some L, some (nD k), none]) := by
      unfold m_wrong_count
      rw [fn2]
      rfl
    rw [body]
    rcases lp with ⟨ga, e', z, o, rfl⟩ | ⟨d, hd, z⟩
    · rw [for_pass rg z]
      have lt : olt (nD (r.length + 1)) (.int 4) = .ok (.bl (decide (r.length + 1 < 4))) := lt_n (r.length + 1) 4
      by_cases h4 : r.length + 1 < 4
      · rw [decide_eq_true h4] at lt
        refine Or.inl ⟨nD (r.length + 1), ⟨_, rfl⟩, ?_⟩
        generalize nD (r.length + 1) = L1 at *
        simp [var, bl, lt]
      · rw [decide_eq_false h4] at lt
        refine Or.inr ⟨?_, by omega, ga⟩
        generalize nD (r.length + 1) = L1 at *
        simp [var, bl, lt]
    · rw [for_ret rg z]
      exact Or.inl ⟨d, hd, rfl⟩
  have up : ∀ d, m_wrong_count [L, nD k] = .ok d → m_wrong_word [L, nD k] = .ok d := fun d q => by
    unfold m_wrong_word
    rw [fn2]
    unfold b_wrong_word
    generalize D.str "count" = NM at *
    generalize nD k = M at *
    simp [var, tr, i0, hc, q]
  rcases cnt with ⟨d, h1, h2⟩ | ⟨h1, h2⟩
  · exact Or.inl ⟨d, h1, up d h2⟩
  · exact Or.inr ⟨up _ h1, h2⟩
end
/-- what the program says of a line of words -/
theorem dP_of {w : String} {r : List String} {k : Nat} {ns : List Nat} (h : pns r = some ns) : dP k (w :: r) = (match mkD w ns with
    | none => none
    | some x => if ∀ a ∈ x.args, a < k then some x else none) := by
  first
  | (rw [dP, h]; done)
  | (rw [dP, h]; dsimp only; done)
  | (rw [dP, h]; dsimp only; cases mkD w ns <;> rfl)
theorem wrong_gen {w : String} {r : List String} {k : Nat} (hk : k ≤ 900000) (hl : r.length ≤ 200000) (hs : ∀ v ∈ w :: r, v.length ≤ SZ) :
    match dP k (w :: r) with
    | some x => m_wrong_word [.lst ((w :: r).map D.str), nD k] = .ok .non
    | none => ∃ d, IntD d ∧ m_wrong_word [.lst ((w :: r).map D.str), nD k] = .ok d := by
  cases h : dP k (w :: r) with
  | some x =>
    obtain ⟨e, _, ok⟩ := dP_some h
    show m_wrong_word [.lst ((w :: r).map D.str), nD k] = .ok .non
    rw [e]
    exact wrong_ok ok hk
  | none =>
    show ∃ d, IntD d ∧ m_wrong_word [.lst ((w :: r).map D.str), nD k] = .ok d
    have pl : ∀ sz : Nat, onothas tab_SIZES (.str w) = .ok (.bl false) → olook tab_SIZES (.str w) = .ok (nD sz) → oeq (.str w) (.str "count") = .ok (.bl false) → (∀ ns : List Nat, ns.length = sz → (∀ a ∈ ns, a < k) → (match mkD w ns with
        | none => none
        | some x => if ∀ a ∈ x.args, a < k then some x else none) ≠ (none : Option Deed)) → ∃ d, IntD d ∧ m_wrong_word [.lst ((w :: r).map D.str), nD k] = .ok d := fun sz h1 h2 h3 h4 => by
      rcases plain_any hk hl hs h1 h2 h3 with z | ⟨_, e1, e2⟩
      · exact z
      · exfalso
        obtain ⟨ns, hn⟩ := pns_all (ws := r) fun v hv z => by
          obtain ⟨a, e, _⟩ := e2 v hv
          rw [z] at e
          cases e
        refine h4 ns (by rw [pns_len hn]; exact e1) (fun a ha => ?_) (by rw [← dP_of hn]; exact h)
        obtain ⟨er, lt⟩ := pns_some hn
        have : nS a ∈ r := by
          rw [er]
          exact List.mem_map_of_mem ha
        obtain ⟨b, e, hb⟩ := e2 _ this
        rw [pn_nS (lt a ha)] at e
        cases e
        exact hb
    by_cases w1 : w = "zero"
    · subst w1
      refine pl 0 rfl rfl rfl fun ns hn ha => ?_
      match ns, hn with
      | [], _ => simp [mkD, Deed.args, Deed.nums]
    by_cases w2 : w = "ones"
    · subst w2
      refine pl 0 rfl rfl rfl fun ns hn ha => ?_
      match ns, hn with
      | [], _ => simp [mkD, Deed.args, Deed.nums]
    by_cases w3 : w = "not"
    · subst w3
      refine pl 1 rfl rfl rfl fun ns hn ha => ?_
      match ns, hn with
      | [a], _ => simpa [mkD, Deed.args, Deed.nums] using ha
    by_cases w4 : w = "shift"
    · subst w4
      refine pl 1 rfl rfl rfl fun ns hn ha => ?_
      match ns, hn with
      | [a], _ => simpa [mkD, Deed.args, Deed.nums] using ha
    by_cases w5 : w = "minus"
    · subst w5
      refine pl 1 rfl rfl rfl fun ns hn ha => ?_
      match ns, hn with
      | [a], _ => simpa [mkD, Deed.args, Deed.nums] using ha
    by_cases w6 : w = "and"
    · subst w6
      refine pl 2 rfl rfl rfl fun ns hn ha => ?_
      match ns, hn with
      | [a, b], _ => simpa [mkD, Deed.args, Deed.nums] using ha
    by_cases w7 : w = "or"
    · subst w7
      refine pl 2 rfl rfl rfl fun ns hn ha => ?_
      match ns, hn with
      | [a, b], _ => simpa [mkD, Deed.args, Deed.nums] using ha
    by_cases w8 : w = "xor"
    · subst w8
      refine pl 2 rfl rfl rfl fun ns hn ha => ?_
      match ns, hn with
      | [a, b], _ => simpa [mkD, Deed.args, Deed.nums] using ha
    by_cases w9 : w = "add"
    · subst w9
      refine pl 2 rfl rfl rfl fun ns hn ha => ?_
      match ns, hn with
      | [a, b], _ => simpa [mkD, Deed.args, Deed.nums] using ha
    by_cases w10 : w = "sub"
    · subst w10
      refine pl 2 rfl rfl rfl fun ns hn ha => ?_
      match ns, hn with
      | [a, b], _ => simpa [mkD, Deed.args, Deed.nums] using ha
    by_cases w11 : w = "count"
    · subst w11
      rcases count_any (k := k) hl hs with z | ⟨_, h3, hg⟩
      · exact z
      · exfalso
        match r, hl, hs, h, h3, hg with
        | a :: b :: c :: ps, hl, hs, h, h3, hg =>
          have g0 := (hg 0 (by simp) (by simp)).1 rfl
          obtain ⟨p1, p2, _⟩ := prm_v g0
          obtain ⟨q, q1, q2⟩ := bel_pn ((hg 1 (by simp) (by simp)).2.1 rfl)
          have hp : ps.length ≤ 3 := by
            by_cases hps : ps.length = 0
            · omega
            · have := ((hg (2 + ps.length) (by simp; omega) (by simp; omega)).2.2 (by omega)).1
              omega
          have hv : ∀ v ∈ c :: ps, ∃ x, pn v = some x ∧ x < k := fun v hv => by
            obtain ⟨i, hi, rfl⟩ := List.mem_iff_getElem.mp hv
            have := ((hg (2 + i) (by simp at hi ⊢; omega) (by simp at hi ⊢; omega)).2.2 (by omega)).2
            have e : (a :: b :: c :: ps)[2 + i]'(by simp at hi ⊢; omega) = (c :: ps)[i] := by
              simp only [Nat.add_comm 2 i, List.getElem_cons_succ]
            rw [e] at this
            exact bel_pn this
          obtain ⟨ns, hn⟩ := pns_all (ws := c :: ps) fun v hv2 z => by
            obtain ⟨x, e, _⟩ := hv v hv2
            rw [z] at e
            cases e
          have lns := pns_len hn
          have ltk : ∀ x ∈ ns, x < k := fun x hx => by
            obtain ⟨er, lt⟩ := pns_some hn
            have : nS x ∈ c :: ps := by
              rw [er]
              exact List.mem_map_of_mem hx
            obtain ⟨y, e, hy⟩ := hv _ this
            rw [pn_nS (lt x hx)] at e
            cases e
            exact hy
          cases ns with
          | nil => simp at lns
          | cons n0 ns =>
            have hall : pns (a :: b :: c :: ps) = some (vv a :: q :: n0 :: ns) := by
              have p1' : pn a = some (vv a) := p1
              have q1' : pn b = some q := q1
              rw [pns, p1', pns, q1', hn]
            rw [dP_of hall] at h
            have hm : mkD "count" (vv a :: q :: n0 :: ns) = some (.count (vv a) q (n0 :: ns)) := by
              rw [mkD, if_pos]
              refine ⟨rfl, p2, q2, ?_⟩
              simp at lns
              omega
            rw [hm] at h
            dsimp only at h
            rw [if_pos (show ∀ a_1 ∈ (Deed.count (vv a) q (n0 :: ns)).args, a_1 < k from ltk)] at h
            cases h
    · have nh : onothas tab_SIZES (.str w) = .ok (.bl true) := by
        have : tab_SIZES.lookup w = none := by
          unfold tab_SIZES
          simp only [List.lookup]
          simp [beq_eq_false_iff_ne.mpr w1, beq_eq_false_iff_ne.mpr w2, beq_eq_false_iff_ne.mpr w3, beq_eq_false_iff_ne.mpr w4, beq_eq_false_iff_ne.mpr w5, beq_eq_false_iff_ne.mpr w6, beq_eq_false_iff_ne.mpr w7, beq_eq_false_iff_ne.mpr w8, beq_eq_false_iff_ne.mpr w9, beq_eq_false_iff_ne.mpr w10]
        show Res.ok (D.bl (!(tab_SIZES.lookup w).isSome)) = _
        rw [this]
        rfl
      have hc : oeq (.str w) (.str "count") = .ok (.bl false) := by
        show Res.ok (D.bl (w == "count")) = _
        rw [beq_eq_false_iff_ne.mpr w11]
      have i0 : oidx (.lst ((w :: r).map D.str)) (.int 0) = .ok (.str w) := oidx_l (k := 0) rfl
      have tr : truthy (.lst ((w :: r).map D.str)) = .ok true := rfl
      refine ⟨.int 0, ⟨0, rfl⟩, ?_⟩
      unfold m_wrong_word
      rw [fn2]
      unfold b_wrong_word
      generalize D.lst ((w :: r).map D.str) = L at *
      generalize D.str w = NM at *
      generalize nD k = M at *
      simp [var, tr, i0, hc, nh]
end Py.U
namespace Py.U
open PySem
/-! ### the law's reader of a deed -/
def oDd : Option Deed → D
  | some x => x.d
  | none => .non
def ldF : SM := (seq (Py.ite (tst (bin oeq (bin oidx (var 2) (cst (.int 0))) (cst (.str "count")))) (ret (tupE (argC (bin oidx (var 2) (cst (.int 0))) (argC (bin oidx (var 3) (cst (.int 0))) (argC (bin oidx (var 3) (cst (.int 1))) (argC (un btuple (var 4)) argN)))))) skip)
  (ret (bin oadd (tupE (argC (bin oidx (var 2) (cst (.int 0))) argN)) (un btuple (var 4)))))
def ldT : SM := (seq (Py.ite (tst (bin Py.one (un blen (var 4)) (var 5))) (ret (cst .non)) skip)
  (seq (for_ (iseq (var 4)) (gnm 6) (Py.ite (tst (bin oge (var 6) (var 1))) (ret (cst .non)) skip))
  ldF))
def ldI : SM := (Py.ite (tst (bin oin (bin oidx (var 2) (cst (.int 0))) (tupE (argC (cst (.str "zero")) (argC (cst (.str "ones")) argN))))) (asg (gnm 5) (cst (.int 0))) (Py.ite (tst (bin oin (bin oidx (var 2) (cst (.int 0))) (tupE (argC (cst (.str "not")) (argC (cst (.str "shift")) (argC (cst (.str "minus")) argN)))))) (asg (gnm 5) (cst (.int 1))) (Py.ite (tst (bin oeq (bin oidx (var 2) (cst (.int 0))) (cst (.str "count")))) (seq (Py.ite (orT (tst (bin olt (un blen (var 3)) (cst (.int 3)))) (orT (tst (bin ogt (un blen (var 3)) (cst (.int 6)))) (orT (tst (bin onotin (bin oidx (var 3) (cst (.int 0))) (tupE (argC (cst (.int 2)) (argC (cst (.int 3)) (argC (cst (.int 5)) argN)))))) (tst (bin oge (bin oidx (var 3) (cst (.int 1))) (bin oidx (var 3) (cst (.int 0)))))))) (ret (cst .non)) skip)
  (seq (asg (gnm 4) (slc (var 3) (some (cst (.int 2))) none))
  (asg (gnm 5) (un blen (var 4))))) (Py.ite (tst (bin onotin (bin oidx (var 2) (cst (.int 0))) (tupE (argC (cst (.str "and")) (argC (cst (.str "or")) (argC (cst (.str "xor")) (argC (cst (.str "add")) (argC (cst (.str "sub")) argN)))))))) (ret (cst .non)) skip))))
theorem ldT_eval {A W N : D} {ps : List Nat} {m k : Nat} (R : D) (hR : ∀ o6, ldF [some A, some (nD k), some W, some N, some (.lst (ps.map nD)), some (nD m), o6] = .ok (.ret R)) : ldT [some A, some (nD k), some W, some N, some (.lst (ps.map nD)), some (nD m), none] = .ok (.ret (if ps.length = m ∧ (∀ a ∈ ps, a < k) then R else .non)) := by
  have bl : blen (.lst (ps.map nD)) = .ok (nD ps.length) := lenN ps _
  have n1 := one_n ps.length m
  unfold ldT
  by_cases hm : ps.length = m
  · rw [decide_eq_false (by simpa using hm)] at n1
    have c1 : tst (bin Py.one (un blen (var 4)) (var 5)) [some A, some (nD k), some W, some N, some (.lst (ps.map nD)), some (nD m), none] = .ok false := by
      generalize nD ps.length = LL at *
      generalize nD m = M at *
      simp [var, bl, n1]
    rw [chk_pass c1]
    have ch := forL_chk (b := forB (gnm 6) (Py.ite (tst (bin oge (var 6) (var 1))) (ret (cst .non)) skip)) (I := fun e => ∃ o, e = [some A, some (nD k), some W, some N, some (.lst (ps.map nD)), some (nD m), o]) (good := fun x => ∃ a : Nat, x = nD a ∧ a < k) (r := fun _ => .non) (xs := ps.map nD) (e := [some A, some (nD k), some W, some N, some (.lst (ps.map nD)), some (nD m), none]) ⟨none, rfl⟩ (by
        rintro _ hx ⟨a, rfl, ha⟩ _ ⟨o, rfl⟩
        have g := ge_n a k
        rw [decide_eq_false (by omega)] at g
        refine ⟨_, ?_, some (nD a), rfl⟩
        generalize nD a = X at *
        generalize nD k = K at *
        simp [forB_eq, gnm_eq, var, g]) (by
        rintro _ hx hn _ ⟨o, rfl⟩
        obtain ⟨a, ha, rfl⟩ := List.mem_map.mp hx
        have g := ge_n a k
        rw [decide_eq_true (by
          by_cases h : a < k
          · exact absurd ⟨a, rfl, h⟩ hn
          · omega)] at g
        generalize nD a = X at *
        generalize nD k = K at *
        simp [forB_eq, gnm_eq, var, g])
    have fs : iseq (var 4) [some A, some (nD k), some W, some N, some (.lst (ps.map nD)), some (nD m), none] = .ok (ps.map nD) := rfl
    rcases ch with ⟨g, e', z, o, rfl⟩ | ⟨x, hx, hn, z⟩
    · rw [for_pass fs z, hR o, if_pos]
      refine ⟨hm, fun a ha => ?_⟩
      obtain ⟨b, e, hb⟩ := g _ (List.mem_map_of_mem ha)
      have : a = b := by
        have := D.int.inj e
        omega
      omega
    · rw [for_ret fs z, if_neg]
      rintro ⟨_, h⟩
      obtain ⟨a, ha, rfl⟩ := List.mem_map.mp hx
      exact hn ⟨a, rfl, h a ha⟩
  · rw [decide_eq_true hm] at n1
    rw [if_neg (fun z => hm z.1)]
    generalize nD ps.length = LL at *
    generalize nD m = M at *
    simp [var, bl, n1]
def oM (k : Nat) (o : Option Deed) : Option Deed := match o with
  | none => none
  | some x => if ∀ a ∈ x.args, a < k then some x else none
theorem dP_is {w : String} {r : List String} {k : Nat} {ns : List Nat} (h : pns r = some ns) : dP k (w :: r) = oM k (mkD w ns) := dP_of h
section
variable {l w : String} {r : List String} {ns : List Nat} {k : Nat}
theorem ldF_plain (hc : oeq (.str w) (.str "count") = .ok (.bl false)) (hz : ns.length + 1 ≤ SZ) (A N M : D) (o6 : Option D) : ldF [some A, some (nD k), some (.lst ((w :: r).map D.str)), some N, some (.lst (ns.map nD)), some M, o6] = .ok (.ret (.tup (.str w :: ns.map nD))) := by
  have i0 : oidx (.lst ((w :: r).map D.str)) (.int 0) = .ok (.str w) := oidx_l (k := 0) rfl
  have bt : btuple (.lst (ns.map nD)) = .ok (.tup (ns.map nD)) := rfl
  have ad : oadd (.tup [.str w]) (.tup (ns.map nD)) = .ok (.tup (.str w :: ns.map nD)) := by
    show (if [D.str w].length + (ns.map nD).length ≤ SZ then Res.ok (D.tup ([D.str w] ++ ns.map nD)) else .stuck) = _
    rw [if_pos (by
      rw [List.length_map]
      simp
      omega)]
    rfl
  have z1 : (1 : Nat) ≤ SZ := by decide
  unfold ldF
  generalize D.lst ((w :: r).map D.str) = W at *
  generalize D.lst (ns.map nD) = V at *
  generalize D.tup (ns.map nD) = T at *
  generalize D.tup (.str w :: ns.map nD) = R at *
  generalize D.str w = NM at *
  simp [var, i0, hc, bt, ad, chk, z1]
theorem ld_plain {m : Nat} (hp : pns r = some ns) (hz : l.length + 2 ≤ SZ) (hq : spL ' ' l = w :: r)
    (hI : ∀ N V : D, ldI [some (.str l), some (nD k), some (.lst ((w :: r).map D.str)), some N, some V, some (.int 2), none] = .ok (.next [some (.str l), some (nD k), some (.lst ((w :: r).map D.str)), some N, some V, some (nD m), none]))
    (hc : oeq (.str w) (.str "count") = .ok (.bl false))
    (hf : (if ns.length = m ∧ (∀ a ∈ ns, a < k) then D.tup (.str w :: ns.map nD) else .non) = oDd (oM k (mkD w ns))) :
    m_law_deed [.str l, nD k] = .ok (oDd (dP k (w :: r))) := by
  have sp := split_L (a := l) spc (by decide) hz
  obtain ⟨z1, z2⟩ := words_sz hz
  rw [hq] at sp z1 z2
  have ln := lawnums_gen (ws := r) (by simp at z1; omega) fun v hv => z2 v (List.mem_cons_of_mem _ hv)
  rw [hp] at ln
  change _ = Res.ok (D.lst (ns.map nD)) at ln
  have s1 : oslc (.lst ((w :: r).map D.str)) (some 1) none = .ok (.lst (r.map D.str)) := slc1 _ _
  have on : oisN (.lst (ns.map nD)) = .ok (.bl false) := rfl
  have hl := pns_len hp
  have tl := ldT_eval (A := .str l) (W := .lst ((w :: r).map D.str)) (N := .lst (ns.map nD)) (ps := ns) (m := m) (k := k) _ fun o6 => ldF_plain (r := r) (k := k) hc (by simp at z1; omega) (.str l) (.lst (ns.map nD)) (nD m) o6
  rw [dP_is hp, ← hf]
  unfold m_law_deed
  rw [fn2]
  show done (seq (asg (gnm 2) _) (seq (asg (gnm 3) _) (seq (Py.ite _ _ skip) (seq (asg (gnm 4) (var 3)) (seq (asg (gnm 5) (cst (.int 2))) (seq ldI ldT))))) [some (.str l), some (nD k), none, none, none, none, none]) = _
  refine (congrArg done ((asg_pass (d := .lst ((w :: r).map D.str)) ?_).trans ((asg_pass (d := .lst (ns.map nD)) ?_).trans ((chk_pass ?_).trans ((asg_pass (d := .lst (ns.map nD)) rfl).trans ((asg_pass (d := .int 2) rfl).trans ?_)))))).trans (done_ret _)
  · rw [mtx_eq]
    exact sp
  · generalize D.lst ((w :: r).map D.str) = W at *
    generalize D.lst (r.map D.str) = R at *
    simp [var, slc_eq, bnd_none, bnd_some, s1, ln]
  · generalize D.lst (ns.map nD) = V at *
    simp [var, on]
  · show seq ldI ldT [some (.str l), some (nD k), some (.lst ((w :: r).map D.str)), some (.lst (ns.map nD)), some (.lst (ns.map nD)), some (.int 2), none] = _
    rw [seq_eq, hI]
    exact tl
end
theorem in2 (w a b : String) : oin (.str w) (.tup [.str a, .str b]) = .ok (.bl (decide (w ∈ [a, b]))) := in_strs w [a, b]
theorem in3 (w a b c : String) : oin (.str w) (.tup [.str a, .str b, .str c]) = .ok (.bl (decide (w ∈ [a, b, c]))) := in_strs w [a, b, c]
theorem nin5 (w a b c d e : String) : onotin (.str w) (.tup [.str a, .str b, .str c, .str d, .str e]) = .ok (.bl (!decide (w ∈ [a, b, c, d, e]))) := nin_strs w [a, b, c, d, e]
section
variable {w : String} {r : List String} (A K N V : D)
theorem ldI_gen (c1 c2 c3 c4 : Bool) (h1 : oin (.str w) (.tup [.str "zero", .str "ones"]) = .ok (.bl c1)) (h2 : oin (.str w) (.tup [.str "not", .str "shift", .str "minus"]) = .ok (.bl c2)) (h3 : oeq (.str w) (.str "count") = .ok (.bl c3)) (h4 : onotin (.str w) (.tup [.str "and", .str "or", .str "xor", .str "add", .str "sub"]) = .ok (.bl c4)) (hc : c3 = false) :
    ldI [some A, some K, some (.lst ((w :: r).map D.str)), some N, some V, some (.int 2), none] = if c1 then .ok (.next [some A, some K, some (.lst ((w :: r).map D.str)), some N, some V, some (.int 0), none]) else if c2 then .ok (.next [some A, some K, some (.lst ((w :: r).map D.str)), some N, some V, some (.int 1), none]) else if c4 then .ok (.ret .non) else .ok (.next [some A, some K, some (.lst ((w :: r).map D.str)), some N, some V, some (.int 2), none]) := by
  subst hc
  have i0 : oidx (.lst ((w :: r).map D.str)) (.int 0) = .ok (.str w) := oidx_l (k := 0) rfl
  have z2 : (2 : Nat) ≤ SZ := by decide
  have z3 : (3 : Nat) ≤ SZ := by decide
  have z5 : (5 : Nat) ≤ SZ := by decide
  unfold ldI
  generalize D.lst ((w :: r).map D.str) = W at *
  generalize D.str w = NM at *
  cases c1 <;> cases c2 <;> cases c4 <;> simp [var, i0, h1, h2, h3, h4, chk, z2, z3, z5]
end
theorem fin0 {k : Nat} (w : String) (x : Deed) (hw : w ∈ ["zero", "ones"]) (hx : mkD w [] = some x) (hd : x.d = .tup [.str w]) (ha : x.args = []) (hn : ∀ a r, mkD w (a :: r) = none) (ns : List Nat) : (if ns.length = 0 ∧ (∀ a ∈ ns, a < k) then D.tup (.str w :: ns.map nD) else .non) = oDd (oM k (mkD w ns)) := by
  cases ns with
  | nil =>
    rw [hx, if_pos ⟨rfl, fun a h => nomatch h⟩]
    unfold oM
    dsimp only
    rw [if_pos (by rw [ha]; exact fun a h => nomatch h)]
    exact hd.symm
  | cons a r =>
    rw [hn, if_neg (by simp)]
    rfl
theorem fin1 {k : Nat} (w : String) (f : Nat → Deed) (hx : ∀ a, mkD w [a] = some (f a)) (hd : ∀ a, (f a).d = .tup [.str w, nD a]) (ha : ∀ a, (f a).args = [a]) (hn0 : mkD w [] = none) (hn : ∀ a b r, mkD w (a :: b :: r) = none) (ns : List Nat) : (if ns.length = 1 ∧ (∀ a ∈ ns, a < k) then D.tup (.str w :: ns.map nD) else .non) = oDd (oM k (mkD w ns)) := by
  match ns with
  | [] =>
    rw [hn0, if_neg (by simp)]
    rfl
  | [a] =>
    rw [hx]
    unfold oM
    dsimp only
    rw [ha]
    by_cases h : ∀ x ∈ [a], x < k
    · rw [if_pos ⟨rfl, h⟩, if_pos h]
      exact (hd a).symm
    · rw [if_neg (fun z => h z.2), if_neg h]
      rfl
  | a :: b :: r =>
    rw [hn, if_neg (by simp)]
    rfl
theorem fin2 {k : Nat} (w : String) (f : Nat → Nat → Deed) (hx : ∀ a b, mkD w [a, b] = some (f a b)) (hd : ∀ a b, (f a b).d = .tup [.str w, nD a, nD b]) (ha : ∀ a b, (f a b).args = [a, b]) (hn0 : mkD w [] = none) (hn1 : ∀ a, mkD w [a] = none) (hn : ∀ a b c r, mkD w (a :: b :: c :: r) = none) (ns : List Nat) : (if ns.length = 2 ∧ (∀ a ∈ ns, a < k) then D.tup (.str w :: ns.map nD) else .non) = oDd (oM k (mkD w ns)) := by
  match ns with
  | [] =>
    rw [hn0, if_neg (by simp)]
    rfl
  | [a] =>
    rw [hn1, if_neg (by simp)]
    rfl
  | [a, b] =>
    rw [hx]
    unfold oM
    dsimp only
    rw [ha]
    by_cases h : ∀ x ∈ [a, b], x < k
    · rw [if_pos ⟨rfl, h⟩, if_pos h]
      exact (hd a b).symm
    · rw [if_neg (fun z => h z.2), if_neg h]
      rfl
  | a :: b :: c :: r =>
    rw [hn, if_neg (by simp)]
    rfl
theorem prm_nin (p : Nat) : onotin (nD p) (.tup [.int 2, .int 3, .int 5]) = .ok (.bl (decide (¬ (p = 2 ∨ p = 3 ∨ p = 5)))) := by
  show Res.ok (D.bl (!(((2 : Int) == (p : Int)) || (((3 : Int) == (p : Int)) || (((5 : Int) == (p : Int)) || false))))) = _
  congr 2
  by_cases h2 : p = 2
  · subst h2
    rfl
  · by_cases h3 : p = 3
    · subst h3
      rfl
    · by_cases h5 : p = 5
      · subst h5
        rfl
      · have e2 : ((2 : Int) == (p : Int)) = false := beq_eq_false_iff_ne.mpr (by omega)
        have e3 : ((3 : Int) == (p : Int)) = false := beq_eq_false_iff_ne.mpr (by omega)
        have e5 : ((5 : Int) == (p : Int)) = false := beq_eq_false_iff_ne.mpr (by omega)
        rw [e2, e3, e5, decide_eq_true (by omega)]
        rfl
end Py.U
namespace Py.U
open PySem
section
variable {l w : String} {r : List String} {ns : List Nat} {k : Nat}
/-- up to the nested tests -/
theorem ld_pre (hp : pns r = some ns) (hz : l.length + 2 ≤ SZ) (hq : spL ' ' l = w :: r) : m_law_deed [.str l, nD k] = done (seq ldI ldT [some (.str l), some (nD k), some (.lst ((w :: r).map D.str)), some (.lst (ns.map nD)), some (.lst (ns.map nD)), some (.int 2), none]) := by
  have sp := split_L (a := l) spc (by decide) hz
  obtain ⟨z1, z2⟩ := words_sz hz
  rw [hq] at sp z1 z2
  have ln := lawnums_gen (ws := r) (by simp at z1; omega) fun v hv => z2 v (List.mem_cons_of_mem _ hv)
  rw [hp] at ln
  change _ = Res.ok (D.lst (ns.map nD)) at ln
  have s1 : oslc (.lst ((w :: r).map D.str)) (some 1) none = .ok (.lst (r.map D.str)) := slc1 _ _
  have on : oisN (.lst (ns.map nD)) = .ok (.bl false) := rfl
  unfold m_law_deed
  rw [fn2]
  show done (seq (asg (gnm 2) _) (seq (asg (gnm 3) _) (seq (Py.ite _ _ skip) (seq (asg (gnm 4) (var 3)) (seq (asg (gnm 5) (cst (.int 2))) (seq ldI ldT))))) [some (.str l), some (nD k), none, none, none, none, none]) = _
  refine congrArg done ((asg_pass (d := .lst ((w :: r).map D.str)) ?_).trans ((asg_pass (d := .lst (ns.map nD)) ?_).trans ((chk_pass ?_).trans ((asg_pass (d := .lst (ns.map nD)) rfl).trans ((asg_pass (d := .int 2) rfl).trans rfl)))))
  · rw [mtx_eq]
    exact sp
  · generalize D.lst ((w :: r).map D.str) = W at *
    generalize D.lst (r.map D.str) = R at *
    simp [var, slc_eq, bnd_none, bnd_some, s1, ln]
  · generalize D.lst (ns.map nD) = V at *
    simp [var, on]
theorem ld_count (hp : pns r = some ns) (hz : l.length + 2 ≤ SZ) (hq : spL ' ' l = "count" :: r) : m_law_deed [.str l, nD k] = .ok (oDd (dP k ("count" :: r))) := by
  have hl := pns_len hp
  obtain ⟨z1, z2⟩ := words_sz hz
  rw [hq] at z1
  rw [ld_pre hp hz hq, dP_is hp]
  have i0 : oidx (.lst (("count" :: r).map D.str)) (.int 0) = .ok (.str "count") := oidx_l (k := 0) rfl
  have h1 : oin (.str "count") (.tup [.str "zero", .str "ones"]) = .ok (.bl false) := rfl
  have h2 : oin (.str "count") (.tup [.str "not", .str "shift", .str "minus"]) = .ok (.bl false) := rfl
  have h3 : oeq (.str "count") (.str "count") = .ok (.bl true) := rfl
  have zz2 : (2 : Nat) ≤ SZ := by decide
  have zz3 : (3 : Nat) ≤ SZ := by decide
  have zz4 : (4 : Nat) ≤ SZ := by decide
  have bl : blen (.lst (ns.map nD)) = .ok (nD ns.length) := lenN ns _
  have lt : olt (nD ns.length) (.int 3) = .ok (.bl (decide (ns.length < 3))) := lt_n ns.length 3
  have gt : ogt (nD ns.length) (.int 6) = .ok (.bl (decide (6 < ns.length))) := gt_n ns.length 6
  have short : ns.length < 3 → done (seq ldI ldT [some (.str l), some (nD k), some (.lst (("count" :: r).map D.str)), some (.lst (ns.map nD)), some (.lst (ns.map nD)), some (.int 2), none]) = .ok .non := fun h => by
    rw [decide_eq_true h] at lt
    unfold ldI
    generalize D.lst (("count" :: r).map D.str) = W at *
    generalize D.lst (ns.map nD) = V at *
    generalize nD ns.length = LL at *
    generalize D.str "count" = NM at *
    simp [var, i0, h1, h2, h3, chk, zz2, zz3, bl, lt]
  match ns, hl, bl, lt, gt, short with
  | [], hl, bl, lt, gt, short => exact short (by simp)
  | [a], hl, bl, lt, gt, short => exact short (by simp)
  | [a, b], hl, bl, lt, gt, short => exact short (by simp)
  | p :: q :: c :: ps, hl, bl, lt, gt, _ =>
    rw [decide_eq_false (by simp)] at lt
    have j0 : oidx (.lst ((p :: q :: c :: ps).map nD)) (.int 0) = .ok (nD p) := oidx_l (k := 0) rfl
    have j1 : oidx (.lst ((p :: q :: c :: ps).map nD)) (.int 1) = .ok (nD q) := oidx_l (k := 1) rfl
    have ni := prm_nin p
    have g := ge_n q p
    rw [mkD]
    by_cases h6 : ps.length ≤ 3
    · rw [decide_eq_false (by simp; omega)] at gt
      by_cases hpr : p = 2 ∨ p = 3 ∨ p = 5
      · rw [decide_eq_false (fun z => z hpr)] at ni
        by_cases hqp : q < p
        · rw [decide_eq_false (by omega)] at g
          rw [if_pos ⟨rfl, hpr, hqp, h6⟩]
          have s2 : oslc (.lst ((p :: q :: c :: ps).map nD)) (some 2) none = .ok (.lst ((c :: ps).map nD)) := by
            show Res.ok (D.lst (cut ((p :: q :: c :: ps).map nD) (some ((2 : Nat) : Int)) none)) = _
            rw [cut_from _ (k := 2) (by simp)]
            rfl
          have bl2 : blen (.lst ((c :: ps).map nD)) = .ok (nD (c :: ps).length) := lenN (c :: ps) _
          have bt : btuple (.lst ((c :: ps).map nD)) = .ok (.tup ((c :: ps).map nD)) := rfl
          have tl := ldT_eval (A := .str l) (W := .lst (("count" :: r).map D.str)) (N := .lst ((p :: q :: c :: ps).map nD)) (ps := c :: ps) (m := (c :: ps).length) (k := k) (Deed.count p q (c :: ps)).d (fun o6 => by
            show _ = Res.ok (Fl.ret (D.tup [.str "count", nD p, nD q, .tup ((c :: ps).map nD)]))
            unfold ldF
            generalize D.lst (("count" :: r).map D.str) = W at *
            generalize D.lst ((p :: q :: c :: ps).map nD) = V at *
            generalize D.lst ((c :: ps).map nD) = V2 at *
            generalize D.tup ((c :: ps).map nD) = T2 at *
            generalize nD p = P at *
            generalize nD q = Q at *
            generalize D.str "count" = NM at *
            simp [var, i0, h3, j0, j1, bt, chk, zz4])
          have e2 : ldI [some (.str l), some (nD k), some (.lst (("count" :: r).map D.str)), some (.lst ((p :: q :: c :: ps).map nD)), some (.lst ((p :: q :: c :: ps).map nD)), some (.int 2), none] = .ok (.next [some (.str l), some (nD k), some (.lst (("count" :: r).map D.str)), some (.lst ((p :: q :: c :: ps).map nD)), some (.lst ((c :: ps).map nD)), some (nD (c :: ps).length), none]) := by
            unfold ldI
            generalize D.lst (("count" :: r).map D.str) = W at *
            generalize D.lst ((p :: q :: c :: ps).map nD) = V at *
            generalize nD (p :: q :: c :: ps).length = LL at *
            generalize D.lst ((c :: ps).map nD) = V2 at *
            generalize nD (c :: ps).length = L2 at *
            generalize nD p = P at *
            generalize nD q = Q at *
            generalize D.str "count" = NM at *
            simp [var, i0, h1, h2, h3, chk, zz2, zz3, bl, lt, gt, j0, j1, ni, g, slc_eq, bnd_none, bnd_some, s2, bl2]
          have e3 : seq ldI ldT [some (.str l), some (nD k), some (.lst (("count" :: r).map D.str)), some (.lst ((p :: q :: c :: ps).map nD)), some (.lst ((p :: q :: c :: ps).map nD)), some (.int 2), none] = .ok (.ret (if (c :: ps).length = (c :: ps).length ∧ (∀ a ∈ c :: ps, a < k) then (Deed.count p q (c :: ps)).d else .non)) := by
            rw [seq_eq, e2]
            exact tl
          rw [e3, done_ret]
          unfold oM
          dsimp only
          by_cases ha : ∀ a ∈ c :: ps, a < k
          · rw [if_pos ⟨rfl, ha⟩, if_pos (show ∀ a ∈ (Deed.count p q (c :: ps)).args, a < k from ha)]
            rfl
          · rw [if_neg (fun z => ha z.2), if_neg (show ¬ ∀ a ∈ (Deed.count p q (c :: ps)).args, a < k from ha)]
            rfl
        · rw [decide_eq_true (by omega)] at g
          rw [if_neg (fun z => hqp z.2.2.1)]
          show _ = Res.ok D.non
          unfold ldI
          generalize D.lst (("count" :: r).map D.str) = W at *
          generalize D.lst ((p :: q :: c :: ps).map nD) = V at *
          generalize nD (p :: q :: c :: ps).length = LL at *
          generalize nD p = P at *
          generalize nD q = Q at *
          generalize D.str "count" = NM at *
          simp [var, i0, h1, h2, h3, chk, zz2, zz3, bl, lt, gt, j0, j1, ni, g]
      · rw [decide_eq_true hpr] at ni
        rw [if_neg (fun z => hpr z.2.1)]
        show _ = Res.ok D.non
        unfold ldI
        generalize D.lst (("count" :: r).map D.str) = W at *
        generalize D.lst ((p :: q :: c :: ps).map nD) = V at *
        generalize nD (p :: q :: c :: ps).length = LL at *
        generalize nD p = P at *
        generalize D.str "count" = NM at *
        simp [var, i0, h1, h2, h3, chk, zz2, zz3, bl, lt, gt, j0, ni]
    · rw [decide_eq_true (by simp; omega)] at gt
      rw [if_neg (fun z => h6 z.2.2.2)]
      show _ = Res.ok D.non
      unfold ldI
      generalize D.lst (("count" :: r).map D.str) = W at *
      generalize D.lst ((p :: q :: c :: ps).map nD) = V at *
      generalize nD (p :: q :: c :: ps).length = LL at *
      generalize D.str "count" = NM at *
      simp [var, i0, h1, h2, h3, chk, zz2, zz3, bl, lt, gt]
theorem law_deed_gen (hz : l.length + 2 ≤ SZ) : m_law_deed [.str l, nD k] = .ok (oDd (dP k (spL ' ' l))) := by
  cases hq : spL ' ' l with
  | nil => exact absurd hq (spL_ne ' ' l)
  | cons w r =>
    cases hp : pns r with
    | none =>
      have sp := split_L (a := l) spc (by decide) hz
      obtain ⟨z1, z2⟩ := words_sz hz
      rw [hq] at sp z1 z2
      have ln := lawnums_gen (ws := r) (by simp at z1; omega) fun v hv => z2 v (List.mem_cons_of_mem _ hv)
      rw [hp] at ln
      change _ = Res.ok D.non at ln
      have s1 : oslc (.lst ((w :: r).map D.str)) (some 1) none = .ok (.lst (r.map D.str)) := slc1 _ _
      rw [dP, hp]
      show _ = Res.ok D.non
      unfold m_law_deed
      rw [fn2]
      unfold b__law_deed
      generalize D.lst ((w :: r).map D.str) = W at *
      generalize D.lst (r.map D.str) = R at *
      simp [var, mtx_eq, sp, slc_eq, bnd_none, bnd_some, s1, ln, onn]
    | some ns =>
      by_cases w1 : w = "zero"
      · subst w1
        exact ld_plain (m := 0) hp hz hq (fun N V => (ldI_gen (.str l) (nD k) N V true false false true rfl rfl rfl rfl rfl).trans rfl) rfl (fin0 "zero" .zero (by simp) (by simp [mkD]) rfl rfl (fun a r => by
          match r with
          | [] => simp [mkD]
          | [b] => simp [mkD]
          | b :: c :: r => simp [mkD]) ns)
      by_cases w2 : w = "ones"
      · subst w2
        exact ld_plain (m := 0) hp hz hq (fun N V => (ldI_gen (.str l) (nD k) N V true false false true rfl rfl rfl rfl rfl).trans rfl) rfl (fin0 "ones" .ones (by simp) (by simp [mkD]) rfl rfl (fun a r => by
          match r with
          | [] => simp [mkD]
          | [b] => simp [mkD]
          | b :: c :: r => simp [mkD]) ns)
      by_cases w3 : w = "not"
      · subst w3
        exact ld_plain (m := 1) hp hz hq (fun N V => (ldI_gen (.str l) (nD k) N V false true false true rfl rfl rfl rfl rfl).trans rfl) rfl (fin1 "not" .inv (fun a => by simp [mkD]) (fun a => rfl) (fun a => rfl) (by simp [mkD]) (fun a b r => by cases r <;> simp [mkD]) ns)
      by_cases w4 : w = "shift"
      · subst w4
        exact ld_plain (m := 1) hp hz hq (fun N V => (ldI_gen (.str l) (nD k) N V false true false true rfl rfl rfl rfl rfl).trans rfl) rfl (fin1 "shift" .shift (fun a => by simp [mkD]) (fun a => rfl) (fun a => rfl) (by simp [mkD]) (fun a b r => by cases r <;> simp [mkD]) ns)
      by_cases w5 : w = "minus"
      · subst w5
        exact ld_plain (m := 1) hp hz hq (fun N V => (ldI_gen (.str l) (nD k) N V false true false true rfl rfl rfl rfl rfl).trans rfl) rfl (fin1 "minus" .minus (fun a => by simp [mkD]) (fun a => rfl) (fun a => rfl) (by simp [mkD]) (fun a b r => by cases r <;> simp [mkD]) ns)
      by_cases w6 : w = "and"
      · subst w6
        exact ld_plain (m := 2) hp hz hq (fun N V => (ldI_gen (.str l) (nD k) N V false false false false rfl rfl rfl rfl rfl).trans rfl) rfl (fin2 "and" .and (fun a b => by simp [mkD]) (fun a b => rfl) (fun a b => rfl) (by simp [mkD]) (fun a => by simp [mkD]) (fun a b c r => by simp [mkD]) ns)
      by_cases w7 : w = "or"
      · subst w7
        exact ld_plain (m := 2) hp hz hq (fun N V => (ldI_gen (.str l) (nD k) N V false false false false rfl rfl rfl rfl rfl).trans rfl) rfl (fin2 "or" .or (fun a b => by simp [mkD]) (fun a b => rfl) (fun a b => rfl) (by simp [mkD]) (fun a => by simp [mkD]) (fun a b c r => by simp [mkD]) ns)
      by_cases w8 : w = "xor"
      · subst w8
        exact ld_plain (m := 2) hp hz hq (fun N V => (ldI_gen (.str l) (nD k) N V false false false false rfl rfl rfl rfl rfl).trans rfl) rfl (fin2 "xor" .xor (fun a b => by simp [mkD]) (fun a b => rfl) (fun a b => rfl) (by simp [mkD]) (fun a => by simp [mkD]) (fun a b c r => by simp [mkD]) ns)
      by_cases w9 : w = "add"
      · subst w9
        exact ld_plain (m := 2) hp hz hq (fun N V => (ldI_gen (.str l) (nD k) N V false false false false rfl rfl rfl rfl rfl).trans rfl) rfl (fin2 "add" .add (fun a b => by simp [mkD]) (fun a b => rfl) (fun a b => rfl) (by simp [mkD]) (fun a => by simp [mkD]) (fun a b c r => by simp [mkD]) ns)
      by_cases w10 : w = "sub"
      · subst w10
        exact ld_plain (m := 2) hp hz hq (fun N V => (ldI_gen (.str l) (nD k) N V false false false false rfl rfl rfl rfl rfl).trans rfl) rfl (fin2 "sub" .sub (fun a b => by simp [mkD]) (fun a b => rfl) (fun a b => rfl) (by simp [mkD]) (fun a => by simp [mkD]) (fun a b c r => by simp [mkD]) ns)
      by_cases w11 : w = "count"
      · subst w11
        exact ld_count hp hz hq
      have hm : mkD w ns = none := by
        match ns with
        | [] => simp [mkD, w1, w2]
        | [a] => simp [mkD, w3, w4, w5]
        | [a, b] => simp [mkD, w6, w7, w8, w9, w10]
        | a :: b :: c :: r => simp [mkD, w11]
      have h1 := in2 w "zero" "ones"
      rw [decide_eq_false (by simp [w1, w2])] at h1
      have h2 := in3 w "not" "shift" "minus"
      rw [decide_eq_false (by simp [w3, w4, w5])] at h2
      have h3 : oeq (.str w) (.str "count") = .ok (.bl false) := by
        show Res.ok (D.bl (w == "count")) = _
        rw [beq_eq_false_iff_ne.mpr w11]
      have h4 := nin5 w "and" "or" "xor" "add" "sub"
      rw [decide_eq_false (by simp [w6, w7, w8, w9, w10])] at h4
      rw [ld_pre hp hz hq, dP_is hp, hm, seq_ret (ldI_gen (.str l) (nD k) (.lst (ns.map nD)) (.lst (ns.map nD)) false false false true h1 h2 h3 h4 rfl)]
      rfl
end
end Py.U
namespace Py.U
open PySem
/-! ### lines read one after the other -/
def rd {α : Type} (f : Nat → String → Option α) (S : Nat) : List String → Nat → Nat → Except Nat (List α)
  | [], _, _ => .ok []
  | l :: ls, k, at_ => if S ≤ k then .error at_ else match f k l with
    | none => .error at_
    | some x => match rd f S ls (k + 1) (at_ + (l.length + 1)) with
      | .error a => .error a
      | .ok xs => .ok (x :: xs)
theorem rd_len {α : Type} {f : Nat → String → Option α} {S : Nat} : ∀ {ls : List String} {k at_ : Nat} {xs : List α}, rd f S ls k at_ = .ok xs → xs.length = ls.length ∧ (ls ≠ [] → k + ls.length ≤ S)
  | [], k, at_, xs, h => by
    cases h
    exact ⟨rfl, fun z => absurd rfl z⟩
  | l :: ls, k, at_, xs, h => by
    rw [rd] at h
    by_cases hS : S ≤ k
    · rw [if_pos hS] at h
      cases h
    · rw [if_neg hS] at h
      cases hf : f k l with
      | none =>
        rw [hf] at h
        cases h
      | some x =>
        rw [hf] at h
        dsimp only at h
        cases hr : rd f S ls (k + 1) (at_ + (l.length + 1)) with
        | error a =>
          rw [hr] at h
          cases h
        | ok ys =>
          rw [hr] at h
          cases h
          obtain ⟨h1, h2⟩ := rd_len hr
          refine ⟨by simp [h1], fun _ => ?_⟩
          by_cases hn : ls = []
          · subst hn
            simp
            omega
          · have := h2 hn
            simp
            omega
theorem forL_rd {α : Type} {f : Nat → String → Option α} {S : Nat} {b : D → Env → Res Fl} {g : Nat → D} {R : Nat → Res Fl} {I : Nat → Nat → List α → Env → Prop} {L : List String} (hR : ∀ (a : Nat) (x : D) (xs : List D) (e : Env), b x e = R a → forL b (x :: xs) e = R a)
    (step : ∀ k, (hk : k < L.length) → ∀ at_ acc e, I k at_ acc e → ((S ≤ k ∨ f k L[k] = none) → b (g k) e = R at_) ∧ (∀ x, k < S → f k L[k] = some x → ∃ e', b (g k) e = .ok (.next e') ∧ I (k + 1) (at_ + (L[k].length + 1)) (acc ++ [x]) e')) :
    ∀ (m k : Nat), k + m = L.length → ∀ at_ acc e, I k at_ acc e → match rd f S (L.drop k) k at_ with
      | .error a => forL b ((List.range' k m).map g) e = R a
      | .ok xs => ∃ at' e', forL b ((List.range' k m).map g) e = .ok (.next e') ∧ I L.length at' (acc ++ xs) e'
  | 0, k, hk, at_, acc, e, hI => by
    have : L.drop k = [] := List.drop_eq_nil_iff.mpr (by omega)
    rw [this]
    show ∃ at' e', forL b [] e = .ok (.next e') ∧ I L.length at' (acc ++ []) e'
    rw [List.append_nil]
    have : k = L.length := by omega
    rw [← this]
    exact ⟨at_, e, rfl, hI⟩
  | m + 1, k, hk, at_, acc, e, hI => by
    have hkl : k < L.length := by omega
    obtain ⟨s1, s2⟩ := step k hkl at_ acc e hI
    rw [List.drop_eq_getElem_cons hkl, rd]
    by_cases hS : S ≤ k
    · rw [if_pos hS]
      show forL b ((List.range' k (m + 1)).map g) e = R at_
      exact hR at_ _ _ _ (s1 (.inl hS))
    · rw [if_neg hS]
      cases hf : f k L[k] with
      | none =>
        show forL b ((List.range' k (m + 1)).map g) e = R at_
        exact hR at_ _ _ _ (s1 (.inr hf))
      | some x =>
        obtain ⟨e', q, hI'⟩ := s2 x (by omega) hf
        have ih := forL_rd hR step m (k + 1) (by omega) _ _ e' hI'
        have e1 : forL b ((List.range' k (m + 1)).map g) e = forL b ((List.range' (k + 1) m).map g) e' := by
          show forL b (g k :: (List.range' (k + 1) m).map g) e = _
          rw [forL, q]
          rfl
        dsimp only
        cases hr : rd f S (L.drop (k + 1)) (k + 1) (at_ + (L[k].length + 1)) with
        | error a =>
          rw [hr] at ih
          show forL b ((List.range' k (m + 1)).map g) e = R a
          rw [e1]
          exact ih
        | ok xs =>
          rw [hr] at ih
          obtain ⟨at', e2, h1, h2⟩ := ih
          show ∃ at' e', forL b ((List.range' k (m + 1)).map g) e = .ok (.next e') ∧ I L.length at' (acc ++ x :: xs) e'
          refine ⟨at', e2, ?_, ?_⟩
          · rw [e1]
            exact h1
          · rw [List.append_assoc] at h2
            exact h2
theorem enum_rngD : ∀ (ls : List String) (k : Nat), enumL k (ls.map D.str) = (List.range' k ls.length).map fun i => .tup [nD i, .str (ls.getD (i - k) "")]
  | [], k => rfl
  | l :: ls, k => by
    show D.tup [.int k, .str l] :: enumL (k + 1) (ls.map D.str) = D.tup [nD k, .str ((l :: ls).getD (k - k) "")] :: (List.range' (k + 1) ls.length).map fun i => .tup [nD i, .str ((l :: ls).getD (i - k) "")]
    rw [enum_rngD ls (k + 1)]
    congr 1
    · rw [Nat.sub_self]
      rfl
    · refine List.map_congr_left fun i hi => ?_
      obtain ⟨h1, h2⟩ := List.mem_range'_1.mp hi
      have : i - k = (i - (k + 1)) + 1 := by omega
      rw [this]
      rfl
theorem exc_pass {c : TM} {r b : SM} {e : Env} {cl : String} {fs : List (String × D)} (h : c e = .ok true) (hb : b e = .exc cl fs) : seq (Py.ite c b skip) r e = .exc cl fs := by
  rw [seq_eq, ite_eq, h, bind_ok, if_pos rfl, hb]
  rfl
theorem rais2 {c n1 n2 : String} {a : AM} {e : Env} {x y : D} (h : a e = .ok [x, y]) : rais c [n1, n2] a e = .exc c [(n2, y), (n1, x)] := by
  unfold rais
  rw [h]
  rfl
theorem for_exc {it : IM} {g : GM} {b r : SM} {e : Env} {xs : List D} {cl : String} {fs : List (String × D)} (h : it e = .ok xs) (h2 : forL (forB g b) xs e = .exc cl fs) : seq (for_ it g b) r e = .exc cl fs := by
  rw [seq_eq, for_eq, h, bind_ok, h2]
  rfl
def bad (t : String) (a : Nat) : List (String × D) := [("at", nD a), ("text", .str t)]
def rowR (t : String) : Except Nat ((Nat × Nat × Nat) × List Deed) := match spL '\n' t with
  | [] => .error 0
  | h :: ls => match rowH h with
    | none => .error 0
    | some (n, m, o) => match rd (fun k l => dP (n + k) (spL ' ' l)) m ls 0 (h.length + 1) with
      | .error a => .error a
      | .ok xs => if xs.length < m then .error t.length else .ok ((n, m, o), xs)
def macR (t : String) : Except Nat ((Nat × Nat) × List (List Nat × List Nat)) := match spL '\n' t with
  | [] => .error 0
  | h :: ls => match macH h with
    | none => .error 0
    | some (n, m) => match rd (fun _ l => stP n m l) m ls 0 (h.length + 1) with
      | .error a => .error a
      | .ok xs => if xs.length < m then .error t.length else .ok ((n, m), xs)
def rrB : SM := (seq (asg (gnm 7) (mtx osplit (var 6) (cst (.str " "))))
  (seq (Py.ite (orT (tst (bin oge (var 5) (bin oidx (var 2) (cst (.int 1))))) (tst (un onotN (call m_wrong_word (argC (var 7) (argC (bin oadd (bin oidx (var 2) (cst (.int 0))) (var 5)) argN)))))) (rais "InvalidText" ["text", "at"] (argC (var 0) (argC (var 4) argN))) skip)
  (seq (app 3 (call m_told_deed (argC (var 7) argN)))
  (aug 4 oiadd (bin oadd (un blen (var 6)) (cst (.int 1)))))))
section
variable {n m o : Nat} {t : String} {ls : List String} (h1 : 1 ≤ n) (h3 : n ≤ 3) (hl : ls.length ≤ 100000) (hs : ∀ l ∈ ls, l.length ≤ 100000)
include h1 h3 hl hs
abbrev rI (n m o : Nat) (t : String) (L : D) (k at_ : Nat) (acc : List Deed) (e : Env) : Prop := acc.length = k ∧ Row n acc ∧ ∃ o5 o6 o7, e = [some (.str t), some L, some (.lst [nD n, nD m, nD o]), some (.lst (acc.map Deed.d)), some (nD at_), o5, o6, o7]
theorem rr_step (L : D) {k : Nat} (hk : k < ls.length) {at_ : Nat} {acc : List Deed} {e : Env} (hI : rI n m o t L k at_ acc e) :
    ((m ≤ k ∨ dP (n + k) (spL ' ' ls[k]) = none) → forB (gtup [(gnm 5), (gnm 6)]) rrB (.tup [nD k, .str (ls.getD (k - 0) "")]) e = .exc "InvalidText" (bad t at_)) ∧
    (∀ x, k < m → dP (n + k) (spL ' ' ls[k]) = some x → ∃ e', forB (gtup [(gnm 5), (gnm 6)]) rrB (.tup [nD k, .str (ls.getD (k - 0) "")]) e = .ok (.next e') ∧ rI n m o t L (k + 1) (at_ + (ls[k].length + 1)) (acc ++ [x]) e') := by
  obtain ⟨ha, hr, o5, o6, o7, rfl⟩ := hI
  have eg : ls.getD (k - 0) "" = ls[k] := by
    rw [Nat.sub_zero, List.getD_eq_getElem?_getD, List.getElem?_eq_getElem hk]
    rfl
  rw [eg]
  have lz := hs ls[k] (List.getElem_mem hk)
  have e0 : forB (gtup [(gnm 5), (gnm 6)]) rrB (.tup [nD k, .str ls[k]]) [some (.str t), some L, some (.lst [nD n, nD m, nD o]), some (.lst (acc.map Deed.d)), some (nD at_), o5, o6, o7] = rrB [some (.str t), some L, some (.lst [nD n, nD m, nD o]), some (.lst (acc.map Deed.d)), some (nD at_), some (nD k), some (.str ls[k]), o7] := by
    rw [forB_eq]
    rfl
  rw [e0]
  unfold rrB
  have z2 : ls[k].length + 2 ≤ SZ := Nat.le_trans (show _ ≤ 100002 by omega) (by decide)
  have sp := split_L (a := ls[k]) spc (by decide) z2
  have g := ge_n k m
  have i0 : oidx (.lst [nD n, nD m, nD o]) (.int 0) = .ok (nD n) := oidx_l (k := 0) rfl
  have i1 : oidx (.lst [nD n, nD m, nD o]) (.int 1) = .ok (nD m) := oidx_l (k := 1) rfl
  have ak := nadd n k
  have s1 : mtx osplit (var 6) (cst (.str " ")) [some (.str t), some L, some (.lst [nD n, nD m, nD o]), some (.lst (acc.map Deed.d)), some (nD at_), some (nD k), some (.str ls[k]), o7] = .ok (.lst ((spL ' ' ls[k]).map D.str)) := by
    rw [mtx_eq]
    exact sp
  rw [asg_pass s1]
  show (_ → seq (Py.ite _ _ skip) _ [some (.str t), some L, some (.lst [nD n, nD m, nD o]), some (.lst (acc.map Deed.d)), some (nD at_), some (nD k), some (.str ls[k]), some (.lst ((spL ' ' ls[k]).map D.str))] = _) ∧ (∀ x, _ → _ → ∃ e', seq (Py.ite _ _ skip) _ [some (.str t), some L, some (.lst [nD n, nD m, nD o]), some (.lst (acc.map Deed.d)), some (nD at_), some (nD k), some (.str ls[k]), some (.lst ((spL ' ' ls[k]).map D.str))] = _ ∧ _)
  have tl := tot_spL ' ' ls[k]
  have ln := tot_len (spL ' ' ls[k])
  cases q : spL ' ' ls[k] with
  | nil => exact absurd q (spL_ne ' ' ls[k])
  | cons w r =>
    have ln2 : r.length + 1 ≤ totL (spL ' ' ls[k]) := by
      rw [q] at ln ⊢
      simpa using ln
    have wg := wrong_gen (w := w) (r := r) (k := n + k) (by omega) (by omega) (fun v hv => by
      have := tot_mem (ls := spL ' ' ls[k]) (w := v) (by rw [q]; exact hv)
      exact Nat.le_trans (show _ ≤ 100002 by omega) (by decide))
    refine ⟨fun h => ?_, fun x hkm hx => ?_⟩
    · have cc : orT (tst (bin oge (var 5) (bin oidx (var 2) (cst (.int 1))))) (tst (un onotN (call m_wrong_word (argC (var 7) (argC (bin oadd (bin oidx (var 2) (cst (.int 0))) (var 5)) argN))))) [some (.str t), some L, some (.lst [nD n, nD m, nD o]), some (.lst (acc.map Deed.d)), some (nD at_), some (nD k), some (.str ls[k]), some (.lst ((w :: r).map D.str))] = .ok true := by
        by_cases hm : m ≤ k
        · rw [decide_eq_true hm] at g
          generalize D.lst [nD n, nD m, nD o] = H at *
          generalize nD m = M at *
          generalize nD k = K at *
          simp [var, i1, g]
        · rw [decide_eq_false hm] at g
          have hn : dP (n + k) (w :: r) = none := h.resolve_left hm
          rw [hn] at wg
          obtain ⟨_, ⟨i, rfl⟩, wg⟩ := wg
          have on : onotN (.int i) = .ok (.bl true) := rfl
          generalize D.lst [nD n, nD m, nD o] = H at *
          generalize D.lst ((w :: r).map D.str) = W at *
          generalize D.int i = X at *
          generalize nD (n + k) = NK at *
          generalize nD m = M at *
          generalize nD k = K at *
          generalize nD n = N at *
          simp [var, i0, i1, g, ak, wg, on]
      exact exc_pass cc (rais2 rfl)
    · rw [hx] at wg
      obtain ⟨e, _, ok⟩ := dP_some hx
      have td := told_ok ok (by omega)
      rw [← e] at td
      rw [decide_eq_false (by omega)] at g
      have on : onotN .non = .ok (.bl false) := rfl
      have bl := blen_str (s := ls[k]) (by omega)
      have ad := nadd ls[k].length 1
      change oadd _ (.int 1) = _ at ad
      have ai : oiadd (nD at_) (nD (ls[k].length + 1)) = .ok (nD (at_ + (ls[k].length + 1))) := by
        show Res.ok (D.int ((at_ : Int) + ((ls[k].length + 1 : Nat) : Int))) = Res.ok (D.int ((at_ + (ls[k].length + 1) : Nat) : Int))
        congr 2
      have z1 : (acc.map Deed.d).length < SZ := by
        rw [List.length_map, ha]
        exact Nat.lt_of_lt_of_le (show k < 100001 by omega) (by decide)
      have em : (acc ++ [x]).map Deed.d = acc.map Deed.d ++ [x.d] := by rw [List.map_append]; rfl
      refine ⟨_, ?_, by rw [List.length_append, ha]; rfl, hr.snoc (by rw [ha]; exact ok), some (nD k), some (.str ls[k]), some (.lst ((w :: r).map D.str)), rfl⟩
      rw [em]
      generalize D.lst [nD n, nD m, nD o] = H at *
      generalize D.lst ((w :: r).map D.str) = W at *
      generalize nD (n + k) = NK at *
      generalize nD m = M at *
      generalize nD k = K at *
      generalize nD n = N at *
      generalize nD (at_ + (ls[k].length + 1)) = A2 at *
      generalize nD (ls[k].length + 1) = A1 at *
      generalize nD ls[k].length = A0 at *
      generalize nD at_ = AT at *
      generalize x.d = X at *
      generalize acc.map Deed.d = ACC at *
      simp [var, i0, i1, g, ak, wg, on, td, bl, ad, ai, z1]
theorem rr_loop (L : D) (p0 : Nat) : match rd (fun k l => dP (n + k) (spL ' ' l)) m ls 0 p0 with
    | .error a => forL (forB (gtup [(gnm 5), (gnm 6)]) rrB) (enumL 0 (ls.map D.str)) [some (.str t), some L, some (.lst [nD n, nD m, nD o]), some (.lst []), some (nD p0), none, none, none] = .exc "InvalidText" (bad t a)
    | .ok xs => ∃ at' e', forL (forB (gtup [(gnm 5), (gnm 6)]) rrB) (enumL 0 (ls.map D.str)) [some (.str t), some L, some (.lst [nD n, nD m, nD o]), some (.lst []), some (nD p0), none, none, none] = .ok (.next e') ∧ rI n m o t L ls.length at' xs e' := by
  have q := forL_rd (f := fun k l => dP (n + k) (spL ' ' l)) (S := m) (b := forB (gtup [(gnm 5), (gnm 6)]) rrB) (g := fun i => .tup [nD i, .str (ls.getD (i - 0) "")]) (R := fun a => .exc "InvalidText" (bad t a)) (I := rI n m o t L) (L := ls) (fun a x xs e h => by rw [forL, h]; rfl) (fun k hk at_ acc e hI => rr_step h1 h3 hl hs L hk hI) ls.length 0 (by omega) p0 [] [some (.str t), some L, some (.lst [nD n, nD m, nD o]), some (.lst []), some (nD p0), none, none, none] ⟨rfl, fun k hk => absurd hk (by simp), none, none, none, rfl⟩
  rw [List.drop_zero, ← enum_rngD ls 0] at q
  cases hh : rd (fun k l => dP (n + k) (spL ' ' l)) m ls 0 p0 with
  | error a =>
    rw [hh] at q
    exact q
  | ok xs =>
    rw [hh] at q
    exact q
end
end Py.U
namespace Py.U
open PySem
/-! ### the program's readers, of any text -/
theorem rd_get {α : Type} {f : Nat → String → Option α} {S : Nat} : ∀ {ls : List String} {k at_ : Nat} {xs : List α}, rd f S ls k at_ = .ok xs → ∀ i, (h1 : i < xs.length) → ∃ l, f (k + i) l = some xs[i]
  | [], k, at_, xs, h => by
    cases h
    exact fun i hi => absurd hi (by simp)
  | l :: ls, k, at_, xs, h => by
    rw [rd] at h
    by_cases hS : S ≤ k
    · rw [if_pos hS] at h
      cases h
    · rw [if_neg hS] at h
      cases hf : f k l with
      | none =>
        rw [hf] at h
        cases h
      | some x =>
        rw [hf] at h
        dsimp only at h
        cases hr : rd f S ls (k + 1) (at_ + (l.length + 1)) with
        | error a =>
          rw [hr] at h
          cases h
        | ok ys =>
          rw [hr] at h
          cases h
          intro i hi
          cases i with
          | zero => exact ⟨l, hf⟩
          | succ i =>
            obtain ⟨l2, h2⟩ := rd_get hr i (by simpa using hi)
            refine ⟨l2, ?_⟩
            have e : k + (i + 1) = k + 1 + i := by omega
            rw [e, h2]
            rfl
theorem lines_sz {t : String} (ht : t.length ≤ 90000) {h : String} {ls : List String} (q : spL '\n' t = h :: ls) : h.length ≤ 90000 ∧ ls.length ≤ 100000 ∧ ∀ l ∈ ls, l.length ≤ 100000 := by
  have tl := tot_spL '\n' t
  rw [q] at tl
  have ln := tot_len ls
  rw [tot_cons] at tl
  refine ⟨by omega, by omega, fun l hl => ?_⟩
  have := tot_mem hl
  omega
theorem hd3 {h : String} {ns : List Nat} (e : hdP "row" 3 h = some ns) : ∃ n m o, ns = [n, m, o] ∧ 1 ≤ n ∧ n ≤ 3 := by
  obtain ⟨l3, _, ⟨n, r, rfl, h1, h3⟩, _⟩ := hdP_some e
  match r, l3 with
  | [m, o], _ => exact ⟨n, m, o, rfl, h1, h3⟩
theorem hd2 {h : String} {ns : List Nat} (e : hdP "machine" 2 h = some ns) : ∃ n m, ns = [n, m] ∧ 1 ≤ n ∧ n ≤ 3 := by
  obtain ⟨l3, _, ⟨n, r, rfl, h1, h3⟩, _⟩ := hdP_some e
  match r, l3 with
  | [m], _ => exact ⟨n, m, rfl, h1, h3⟩
theorem rowR_ok {t : String} (ht : t.length ≤ 90000) {n m o : Nat} {xs : List Deed} (h : rowR t = .ok ((n, m, o), xs)) : 1 ≤ n ∧ n ≤ 3 ∧ Row n xs ∧ xs.length ≤ 100000 := by
  unfold rowR at h
  cases q : spL '\n' t with
  | nil => exact absurd q (spL_ne '\n' t)
  | cons hd ls =>
    obtain ⟨z0, z1, z2⟩ := lines_sz ht q
    rw [q] at h
    dsimp only at h
    cases hh : rowH hd with
    | none =>
      rw [hh] at h
      cases h
    | some p =>
      obtain ⟨n2, m2, o2⟩ := p
      rw [hh] at h
      dsimp only at h
      cases hr : rd (fun k l => dP (n2 + k) (spL ' ' l)) m2 ls 0 (hd.length + 1) with
      | error a =>
        rw [hr] at h
        cases h
      | ok ys =>
        rw [hr] at h
        dsimp only at h
        by_cases hl : ys.length < m2
        · rw [if_pos hl] at h
          cases h
        · rw [if_neg hl] at h
          cases h
          have hp : ∃ ns, hdP "row" 3 hd = some ns ∧ ns = [n, m, o] := by
            unfold rowH at hh
            cases e : hdP "row" 3 hd with
            | none =>
              rw [e] at hh
              cases hh
            | some ns =>
              obtain ⟨a, b, c, rfl, _, _⟩ := hd3 e
              rw [e] at hh
              dsimp only at hh
              by_cases hc : c < a + b
              · rw [if_pos hc] at hh
                cases hh
                exact ⟨_, rfl, rfl⟩
              · rw [if_neg hc] at hh
                cases hh
          obtain ⟨ns, e, en⟩ := hp
          obtain ⟨a, b, c, e2, h1, h3⟩ := hd3 e
          rw [en] at e2
          cases e2
          refine ⟨h1, h3, fun k hk => ?_, ?_⟩
          · obtain ⟨l, e3⟩ := rd_get hr k hk
            rw [Nat.zero_add] at e3
            exact (dP_some e3).2.2
          · rw [(rd_len hr).1]
            exact z1
theorem rowH_no {h : String} (e : hdP "row" 3 h = none) : rowH h = none := by
  unfold rowH
  rw [e]
theorem rowH_is {h : String} {n m o : Nat} (e : hdP "row" 3 h = some [n, m, o]) : rowH h = if o < n + m then some (n, m, o) else none := by
  unfold rowH
  rw [e]
section
variable {t h : String} {ls : List String} (q : spL '\n' t = h :: ls)
include q
theorem rowR_1 (e : rowH h = none) : rowR t = .error 0 := by
  unfold rowR
  rw [q]
  dsimp only
  rw [e]
theorem rowR_2 {n m o a : Nat} (e : rowH h = some (n, m, o)) (hr : rd (fun k l => dP (n + k) (spL ' ' l)) m ls 0 (h.length + 1) = .error a) : rowR t = .error a := by
  unfold rowR
  rw [q]
  dsimp only
  rw [e]
  dsimp only
  rw [hr]
theorem rowR_3 {n m o : Nat} {xs : List Deed} (e : rowH h = some (n, m, o)) (hr : rd (fun k l => dP (n + k) (spL ' ' l)) m ls 0 (h.length + 1) = .ok xs) : rowR t = if xs.length < m then .error t.length else .ok ((n, m, o), xs) := by
  unfold rowR
  rw [q]
  dsimp only
  rw [e]
  dsimp only
  rw [hr]
end
theorem read_row_gen {t : String} (ht : t.length ≤ 90000) : m_read_row [.str t] = (match rowR t with
    | .error a => .exc "InvalidText" (bad t a)
    | .ok p => .ok (rowD p.1.1 p.2 p.1.2.2)) := by
  have sp := split_L (a := t) nwl (by decide) (Nat.le_trans (show _ ≤ 90002 by omega) (by decide))
  cases q : spL '\n' t with
  | nil => exact absurd q (spL_ne '\n' t)
  | cons h ls =>
    obtain ⟨z0, z1, z2⟩ := lines_sz ht q
    rw [q] at sp
    have hg := head_gen (name := "row") (l := h) (k := 3) (by omega) (by omega) (Nat.le_trans (show _ ≤ 90002 by omega) (by decide))
    have i0 : oidx (.lst ((h :: ls).map D.str)) (.int 0) = .ok (.str h) := oidx_l (k := 0) rfl
    have s1 : oslc (.lst ((h :: ls).map D.str)) (some 1) none = .ok (.lst (ls.map D.str)) := slc1 _ _
    have st1 : mtx osplit (var 0) (cst (.str "\n")) [some (.str t), none, none, none, none, none, none, none] = .ok (.lst ((h :: ls).map D.str)) := by
      rw [mtx_eq]
      exact sp
    have st2 : call m_head_numbers (argC (bin oidx (var 1) (cst (.int 0))) (argC (cst (.str "row")) (argC (cst (.int 3)) argN))) [some (.str t), some (.lst ((h :: ls).map D.str)), none, none, none, none, none, none] = .ok (oL (hdP "row" 3 h)) := by
      change m_head_numbers [.str h, .str "row", .int 3] = _ at hg
      generalize D.lst ((h :: ls).map D.str) = W at *
      generalize D.str h = HH at *
      generalize oL (hdP "row" 3 h) = RR at *
      simp [var, i0, hg]
    unfold m_read_row
    rw [fn1]
    show done (seq (asg (gnm 1) _) (seq (asg (gnm 2) _) (seq (Py.ite _ _ skip) (seq (asg (gnm 3) (lstE argN)) (seq (asg (gnm 4) _) (seq (for_ (ienum (slc (var 1) (some (cst (.int 1))) none)) (gtup [(gnm 5), (gnm 6)]) rrB) (seq (Py.ite _ _ skip) (ret _)))))))  [some (.str t), none, none, none, none, none, none, none]) = _
    rw [asg_pass st1]
    show done (seq (asg (gnm 2) _) _ [some (.str t), some (.lst ((h :: ls).map D.str)), none, none, none, none, none, none]) = _
    rw [asg_pass st2]
    show done (seq (Py.ite _ _ skip) _ [some (.str t), some (.lst ((h :: ls).map D.str)), some (oL (hdP "row" 3 h)), none, none, none, none, none]) = _
    cases e : hdP "row" 3 h with
    | none =>
      rw [rowR_1 q (rowH_no e), exc_pass (cl := "InvalidText") (fs := bad t 0) (by
        show orT _ _ [some (.str t), some (.lst ((h :: ls).map D.str)), some .non, none, none, none, none, none] = _
        simp [var, onn]) (rais2 rfl)]
      rfl
    | some ns =>
      obtain ⟨n, m, o, rfl, h1, h3⟩ := hd3 e
      have on : oisN (.lst ([n, m, o].map nD)) = .ok (.bl false) := rfl
      have j0 : oidx (.lst ([n, m, o].map nD)) (.int 0) = .ok (nD n) := oidx_l (k := 0) rfl
      have j1 : oidx (.lst ([n, m, o].map nD)) (.int 1) = .ok (nD m) := oidx_l (k := 1) rfl
      have j2 : oidx (.lst ([n, m, o].map nD)) (.int 2) = .ok (nD o) := oidx_l (k := 2) rfl
      have an := nadd n m
      have g := ge_n o (n + m)
      have cv : orT (tst (un oisN (var 2))) (tst (bin oge (bin oidx (var 2) (cst (.int 2))) (bin oadd (bin oidx (var 2) (cst (.int 0))) (bin oidx (var 2) (cst (.int 1)))))) [some (.str t), some (.lst ((h :: ls).map D.str)), some (.lst ([n, m, o].map nD)), none, none, none, none, none] = .ok (decide (n + m ≤ o)) := by
        generalize D.lst ([n, m, o].map nD) = H at *
        generalize nD (n + m) = NM at *
        generalize nD n = N at *
        generalize nD m = M at *
        generalize nD o = O at *
        simp [var, on, j0, j1, j2, an, g]
      show done (seq (Py.ite _ _ skip) _ [some (.str t), some (.lst ((h :: ls).map D.str)), some (.lst ([n, m, o].map nD)), none, none, none, none, none]) = _
      by_cases ho : o < n + m
      · rw [decide_eq_false (by omega)] at cv
        rw [chk_pass cv]
        have hH : rowH h = some (n, m, o) := (rowH_is e).trans (if_pos ho)
        have bl := blen_str (s := h) (Nat.le_trans (show _ ≤ 90000 by omega) (by decide))
        have ad := nadd h.length 1
        change oadd _ (.int 1) = _ at ad
        have st4 : bin oadd (un blen (bin oidx (var 1) (cst (.int 0)))) (cst (.int 1)) [some (.str t), some (.lst ((h :: ls).map D.str)), some (.lst ([n, m, o].map nD)), some (.lst []), none, none, none, none] = .ok (nD (h.length + 1)) := by
          generalize D.lst ((h :: ls).map D.str) = W at *
          generalize nD (h.length + 1) = P1 at *
          generalize nD h.length = P0 at *
          generalize D.str h = HH at *
          simp [var, i0, bl, ad]
        rw [asg_pass (d := .lst []) rfl]
        show done (seq (asg (gnm 4) _) _ [some (.str t), some (.lst ((h :: ls).map D.str)), some (.lst ([n, m, o].map nD)), some (.lst []), none, none, none, none]) = _
        rw [asg_pass st4]
        show done (seq (for_ _ _ _) _ [some (.str t), some (.lst ((h :: ls).map D.str)), some (.lst [nD n, nD m, nD o]), some (.lst []), some (nD (h.length + 1)), none, none, none]) = _
        have ie : ienum (slc (var 1) (some (cst (.int 1))) none) [some (.str t), some (.lst ((h :: ls).map D.str)), some (.lst [nD n, nD m, nD o]), some (.lst []), some (nD (h.length + 1)), none, none, none] = .ok (enumL 0 (ls.map D.str)) := by
          have : slc (var 1) (some (cst (.int 1))) none [some (.str t), some (.lst ((h :: ls).map D.str)), some (.lst [nD n, nD m, nD o]), some (.lst []), some (nD (h.length + 1)), none, none, none] = .ok (.lst (ls.map D.str)) := s1
          show ((slc (var 1) (some (cst (.int 1))) none [some (.str t), some (.lst ((h :: ls).map D.str)), some (.lst [nD n, nD m, nD o]), some (.lst []), some (nD (h.length + 1)), none, none, none] >>= fun x => match x with | .lst xs => Res.ok xs | .tup xs => .ok xs | _ => .stuck) >>= fun xs => Res.ok (enumL 0 xs)) = _
          rw [this, bind_ok]
          rfl
        have lp := rr_loop (m := m) (o := o) (t := t) h1 h3 z1 z2 (.lst ((h :: ls).map D.str)) (h.length + 1)
        cases hr : rd (fun k l => dP (n + k) (spL ' ' l)) m ls 0 (h.length + 1) with
        | error a =>
          rw [hr] at lp
          rw [rowR_2 q hH hr, for_exc ie lp]
          rfl
        | ok xs =>
          rw [hr] at lp
          obtain ⟨at', e', lp, hl, hR, o5, o6, o7, rfl⟩ := lp
          rw [for_pass ie lp]
          have bn : blen (.lst (xs.map Deed.d)) = .ok (nD xs.length) := lenN xs _
          have lt := lt_n xs.length m
          have k1 : oidx (.lst [nD n, nD m, nD o]) (.int 1) = .ok (nD m) := oidx_l (k := 1) rfl
          have cv2 : tst (bin olt (un blen (var 3)) (bin oidx (var 2) (cst (.int 1)))) [some (.str t), some (.lst ((h :: ls).map D.str)), some (.lst [nD n, nD m, nD o]), some (.lst (xs.map Deed.d)), some (nD at'), o5, o6, o7] = .ok (decide (xs.length < m)) := by
            generalize D.lst [nD n, nD m, nD o] = H at *
            generalize D.lst (xs.map Deed.d) = X at *
            generalize nD xs.length = XL at *
            generalize nD m = M at *
            simp [var, bn, k1, lt]
          rw [rowR_3 q hH hr]
          by_cases hx : xs.length < m
          · rw [decide_eq_true hx] at cv2
            rw [if_pos hx]
            have bt := blen_str (s := t) (Nat.le_trans (show _ ≤ 90000 by omega) (by decide))
            rw [exc_pass (cl := "InvalidText") (fs := bad t t.length) cv2 (rais2 (by
              generalize nD t.length = TL at *
              generalize D.str t = T at *
              simp [var, bt]))]
            rfl
          · rw [decide_eq_false hx] at cv2
            rw [if_neg hx, chk_pass cv2]
            have mm := row_made_l h1 h3 hR (out := o) (by omega)
            show done (ret _ [some (.str t), some (.lst ((h :: ls).map D.str)), some (.lst ([n, m, o].map nD)), some (.lst (xs.map Deed.d)), some (nD at'), o5, o6, o7]) = .ok (rowD n xs o)
            generalize D.lst ([n, m, o].map nD) = H at *
            generalize D.lst (xs.map Deed.d) = X at *
            generalize rowD n xs o = RR at *
            generalize nD n = N at *
            generalize nD o = O at *
            simp [var, j0, j2, mm]
      · rw [decide_eq_true (by omega)] at cv
        rw [rowR_1 q ((rowH_is e).trans (if_neg ho)), exc_pass (cl := "InvalidText") (fs := bad t 0) cv (rais2 rfl)]
        rfl
end Py.U
namespace Py.U
open PySem
theorem macH_no {h : String} (e : hdP "machine" 2 h = none) : macH h = none := by
  unfold macH
  rw [e]
theorem macH_is {h : String} {n m : Nat} (e : hdP "machine" 2 h = some [n, m]) : macH h = if m ≠ 0 then some (n, m) else none := by
  unfold macH
  rw [e]
section
variable {t h : String} {ls : List String} (q : spL '\n' t = h :: ls)
include q
theorem macR_1 (e : macH h = none) : macR t = .error 0 := by
  unfold macR
  rw [q]
  dsimp only
  rw [e]
theorem macR_2 {n m a : Nat} (e : macH h = some (n, m)) (hr : rd (fun _ l => stP n m l) m ls 0 (h.length + 1) = .error a) : macR t = .error a := by
  unfold macR
  rw [q]
  dsimp only
  rw [e]
  dsimp only
  rw [hr]
theorem macR_3 {n m : Nat} {xs : List (List Nat × List Nat)} (e : macH h = some (n, m)) (hr : rd (fun _ l => stP n m l) m ls 0 (h.length + 1) = .ok xs) : macR t = if xs.length < m then .error t.length else .ok ((n, m), xs) := by
  unfold macR
  rw [q]
  dsimp only
  rw [e]
  dsimp only
  rw [hr]
end
def rmB : SM := (seq (asg (gnm 8) (call m_state_parts (argC (var 7) (argC (bin oidx (var 2) (cst (.int 0))) (argC (bin oidx (var 2) (cst (.int 1))) argN)))))
  (seq (Py.ite (orT (tst (bin oge (var 6) (bin oidx (var 2) (cst (.int 1))))) (tst (un oisN (var 8)))) (rais "InvalidText" ["text", "at"] (argC (var 0) (argC (var 5) argN))) skip)
  (seq (app 3 (bin oidx (var 8) (cst (.int 0))))
  (seq (app 4 (bin oidx (var 8) (cst (.int 1))))
  (aug 5 oiadd (bin oadd (un blen (var 7)) (cst (.int 1))))))))
abbrev nxs (acc : List (List Nat × List Nat)) : List (List Nat) := acc.map (·.1)
abbrev oss (acc : List (List Nat × List Nat)) : List (List Nat) := acc.map (·.2)
theorem Tbl.snoc' {S L B : Nat} {t : List (List Nat)} (h : Tbl S L B t) {r : List Nat} (h1 : r.length = L) (h2 : ∀ x ∈ r, x < B) : Tbl (S + 1) L B (t ++ [r]) := by
  refine ⟨by rw [List.length_append, h.len]; rfl, fun x hx => ?_⟩
  rcases List.mem_append.mp hx with hx | hx
  · exact h.row x hx
  · rw [List.mem_singleton.mp hx]
    exact ⟨h1, h2⟩
section
variable {n m : Nat} {t : String} {ls : List String} (h1 : 1 ≤ n) (h3 : n ≤ 3) (hm0 : 0 < m) (hl : ls.length ≤ 100000) (hs : ∀ l ∈ ls, l.length ≤ 100000)
include h1 h3 hm0 hl hs
abbrev mI (n m : Nat) (t : String) (L : D) (k at_ : Nat) (acc : List (List Nat × List Nat)) (e : Env) : Prop := acc.length = k ∧ Tbl k (2 ^ n) m (nxs acc) ∧ Tbl k (2 ^ n) 2 (oss acc) ∧ ∃ o6 o7 o8, e = [some (.str t), some L, some (.lst [nD n, nD m]), some (.lst ((nxs acc).map rD)), some (.lst ((oss acc).map rD)), some (nD at_), o6, o7, o8]
theorem rm_step (L : D) {k : Nat} (hk : k < ls.length) {at_ : Nat} {acc : List (List Nat × List Nat)} {e : Env} (hI : mI n m t L k at_ acc e) :
    ((m ≤ k ∨ stP n m ls[k] = none) → forB (gtup [(gnm 6), (gnm 7)]) rmB (.tup [nD k, .str (ls.getD (k - 0) "")]) e = .exc "InvalidText" (bad t at_)) ∧
    (∀ x, k < m → stP n m ls[k] = some x → ∃ e', forB (gtup [(gnm 6), (gnm 7)]) rmB (.tup [nD k, .str (ls.getD (k - 0) "")]) e = .ok (.next e') ∧ mI n m t L (k + 1) (at_ + (ls[k].length + 1)) (acc ++ [x]) e') := by
  obtain ⟨ha, tn, to, o6, o7, o8, rfl⟩ := hI
  have eg : ls.getD (k - 0) "" = ls[k] := by
    rw [Nat.sub_zero, List.getD_eq_getElem?_getD, List.getElem?_eq_getElem hk]
    rfl
  rw [eg]
  have lz := hs ls[k] (List.getElem_mem hk)
  have e0 : forB (gtup [(gnm 6), (gnm 7)]) rmB (.tup [nD k, .str ls[k]]) [some (.str t), some L, some (.lst [nD n, nD m]), some (.lst ((nxs acc).map rD)), some (.lst ((oss acc).map rD)), some (nD at_), o6, o7, o8] = rmB [some (.str t), some L, some (.lst [nD n, nD m]), some (.lst ((nxs acc).map rD)), some (.lst ((oss acc).map rD)), some (nD at_), some (nD k), some (.str ls[k]), o8] := by
    rw [forB_eq]
    rfl
  rw [e0]
  unfold rmB
  have z2 : ls[k].length + 2 ≤ SZ := Nat.le_trans (show _ ≤ 100002 by omega) (by decide)
  have sg := (state_gen h1 h3 hm0 z2).1
  have g := ge_n k m
  have i0 : oidx (.lst [nD n, nD m]) (.int 0) = .ok (nD n) := oidx_l (k := 0) rfl
  have i1 : oidx (.lst [nD n, nD m]) (.int 1) = .ok (nD m) := oidx_l (k := 1) rfl
  have s1 : call m_state_parts (argC (var 7) (argC (bin oidx (var 2) (cst (.int 0))) (argC (bin oidx (var 2) (cst (.int 1))) argN))) [some (.str t), some L, some (.lst [nD n, nD m]), some (.lst ((nxs acc).map rD)), some (.lst ((oss acc).map rD)), some (nD at_), some (nD k), some (.str ls[k]), o8] = .ok (oP (stP n m ls[k])) := by
    generalize D.lst [nD n, nD m] = H at *
    generalize D.str ls[k] = LK at *
    generalize oP (stP n m ls[k]) = RR at *
    generalize nD n = N at *
    generalize nD m = M at *
    simp [var, i0, i1, sg]
  rw [asg_pass s1]
  show (_ → seq (Py.ite _ _ skip) _ [some (.str t), some L, some (.lst [nD n, nD m]), some (.lst ((nxs acc).map rD)), some (.lst ((oss acc).map rD)), some (nD at_), some (nD k), some (.str ls[k]), some (oP (stP n m ls[k]))] = _) ∧ (∀ x, _ → _ → ∃ e', seq (Py.ite _ _ skip) _ [some (.str t), some L, some (.lst [nD n, nD m]), some (.lst ((nxs acc).map rD)), some (.lst ((oss acc).map rD)), some (nD at_), some (nD k), some (.str ls[k]), some (oP (stP n m ls[k]))] = _ ∧ _)
  refine ⟨fun h => ?_, fun x hkm hx => ?_⟩
  · have cc : orT (tst (bin oge (var 6) (bin oidx (var 2) (cst (.int 1))))) (tst (un oisN (var 8))) [some (.str t), some L, some (.lst [nD n, nD m]), some (.lst ((nxs acc).map rD)), some (.lst ((oss acc).map rD)), some (nD at_), some (nD k), some (.str ls[k]), some (oP (stP n m ls[k]))] = .ok true := by
      by_cases hm : m ≤ k
      · rw [decide_eq_true hm] at g
        generalize D.lst [nD n, nD m] = H at *
        generalize nD m = M at *
        generalize nD k = K at *
        simp [var, i1, g]
      · rw [decide_eq_false hm] at g
        have hn : stP n m ls[k] = none := h.resolve_left hm
        rw [hn]
        show orT _ _ [some (.str t), some L, some (.lst [nD n, nD m]), some (.lst ((nxs acc).map rD)), some (.lst ((oss acc).map rD)), some (nD at_), some (nD k), some (.str ls[k]), some .non] = _
        generalize D.lst [nD n, nD m] = H at *
        generalize nD m = M at *
        generalize nD k = K at *
        simp [var, i1, g, onn]
    exact exc_pass cc (rais2 rfl)
  · obtain ⟨p1, p2, p3, p4⟩ := stP_some hx
    obtain ⟨A, B⟩ := x
    rw [hx]
    show ∃ e', seq (Py.ite _ _ skip) _ [some (.str t), some L, some (.lst [nD n, nD m]), some (.lst ((nxs acc).map rD)), some (.lst ((oss acc).map rD)), some (nD at_), some (nD k), some (.str ls[k]), some (.tup [rD A, rD B])] = _ ∧ _
    rw [decide_eq_false (by omega)] at g
    have on : oisN (.tup [rD A, rD B]) = .ok (.bl false) := rfl
    have j0 : oidx (.tup [rD A, rD B]) (.int 0) = .ok (rD A) := oidx_t (k := 0) rfl
    have j1 : oidx (.tup [rD A, rD B]) (.int 1) = .ok (rD B) := oidx_t (k := 1) rfl
    have bl := blen_str (s := ls[k]) (by omega)
    have ad := nadd ls[k].length 1
    change oadd _ (.int 1) = _ at ad
    have ai : oiadd (nD at_) (nD (ls[k].length + 1)) = .ok (nD (at_ + (ls[k].length + 1))) := by
      show Res.ok (D.int ((at_ : Int) + ((ls[k].length + 1 : Nat) : Int))) = Res.ok (D.int ((at_ + (ls[k].length + 1) : Nat) : Int))
      congr 2
    have zk : k < SZ := Nat.lt_of_lt_of_le (show k < 100001 by omega) (by decide)
    have z1 : ((nxs acc).map rD).length < SZ := by
      rw [List.length_map, List.length_map, ha]
      exact zk
    have z2 : ((oss acc).map rD).length < SZ := by
      rw [List.length_map, List.length_map, ha]
      exact zk
    have en : nxs (acc ++ [(A, B)]) = nxs acc ++ [A] := by
      show List.map _ _ = _
      rw [List.map_append]
      rfl
    have eo : oss (acc ++ [(A, B)]) = oss acc ++ [B] := by
      show List.map _ _ = _
      rw [List.map_append]
      rfl
    have en2 : (nxs (acc ++ [(A, B)])).map rD = (nxs acc).map rD ++ [rD A] := by rw [en, List.map_append]; rfl
    have eo2 : (oss (acc ++ [(A, B)])).map rD = (oss acc).map rD ++ [rD B] := by rw [eo, List.map_append]; rfl
    refine ⟨_, ?_, by rw [List.length_append, ha]; rfl, by rw [en]; exact tn.snoc' p1 p3, by rw [eo]; exact to.snoc' p2 p4, some (nD k), some (.str ls[k]), some (.tup [rD A, rD B]), rfl⟩
    rw [en2, eo2]
    generalize D.lst [nD n, nD m] = H at *
    generalize D.tup [rD A, rD B] = P at *
    generalize nD m = M at *
    generalize nD k = K at *
    generalize nD n = N at *
    generalize nD (at_ + (ls[k].length + 1)) = A2 at *
    generalize nD (ls[k].length + 1) = A1 at *
    generalize nD ls[k].length = A0 at *
    generalize nD at_ = AT at *
    generalize rD A = RA at *
    generalize rD B = RB at *
    generalize (nxs acc).map rD = NX at *
    generalize (oss acc).map rD = OS at *
    simp [var, i1, g, on, j0, j1, bl, ad, ai, z1, z2]
theorem rm_loop (L : D) (p0 : Nat) : match rd (fun _ l => stP n m l) m ls 0 p0 with
    | .error a => forL (forB (gtup [(gnm 6), (gnm 7)]) rmB) (enumL 0 (ls.map D.str)) [some (.str t), some L, some (.lst [nD n, nD m]), some (.lst []), some (.lst []), some (nD p0), none, none, none] = .exc "InvalidText" (bad t a)
    | .ok xs => ∃ at' e', forL (forB (gtup [(gnm 6), (gnm 7)]) rmB) (enumL 0 (ls.map D.str)) [some (.str t), some L, some (.lst [nD n, nD m]), some (.lst []), some (.lst []), some (nD p0), none, none, none] = .ok (.next e') ∧ mI n m t L ls.length at' xs e' := by
  have q := forL_rd (f := fun _ l => stP n m l) (S := m) (b := forB (gtup [(gnm 6), (gnm 7)]) rmB) (g := fun i => .tup [nD i, .str (ls.getD (i - 0) "")]) (R := fun a => .exc "InvalidText" (bad t a)) (I := mI n m t L) (L := ls) (fun a x xs e h => by rw [forL, h]; rfl) (fun k hk at_ acc e hI => rm_step h1 h3 hm0 hl hs L hk hI) ls.length 0 (by omega) p0 [] [some (.str t), some L, some (.lst [nD n, nD m]), some (.lst []), some (.lst []), some (nD p0), none, none, none] ⟨rfl, ⟨rfl, fun x hx => nomatch hx⟩, ⟨rfl, fun x hx => nomatch hx⟩, none, none, none, rfl⟩
  rw [List.drop_zero, ← enum_rngD ls 0] at q
  cases hh : rd (fun _ l => stP n m l) m ls 0 p0 with
  | error a =>
    rw [hh] at q
    exact q
  | ok xs =>
    rw [hh] at q
    exact q
end
theorem read_machine_gen {t : String} (ht : t.length ≤ 90000) : m_read_machine [.str t] = (match macR t with
    | .error a => .exc "InvalidText" (bad t a)
    | .ok p => .ok (macD p.1.1 (nxs p.2) (oss p.2))) := by
  have sp := split_L (a := t) nwl (by decide) (Nat.le_trans (show _ ≤ 90002 by omega) (by decide))
  cases q : spL '\n' t with
  | nil => exact absurd q (spL_ne '\n' t)
  | cons h ls =>
    obtain ⟨z0, z1, z2⟩ := lines_sz ht q
    rw [q] at sp
    have hg := head_gen (name := "machine") (l := h) (k := 2) (by omega) (by omega) (Nat.le_trans (show _ ≤ 90002 by omega) (by decide))
    have i0 : oidx (.lst ((h :: ls).map D.str)) (.int 0) = .ok (.str h) := oidx_l (k := 0) rfl
    have s1 : oslc (.lst ((h :: ls).map D.str)) (some 1) none = .ok (.lst (ls.map D.str)) := slc1 _ _
    have st1 : mtx osplit (var 0) (cst (.str "\n")) [some (.str t), none, none, none, none, none, none, none, none] = .ok (.lst ((h :: ls).map D.str)) := by
      rw [mtx_eq]
      exact sp
    have st2 : call m_head_numbers (argC (bin oidx (var 1) (cst (.int 0))) (argC (cst (.str "machine")) (argC (cst (.int 2)) argN))) [some (.str t), some (.lst ((h :: ls).map D.str)), none, none, none, none, none, none, none] = .ok (oL (hdP "machine" 2 h)) := by
      change m_head_numbers [.str h, .str "machine", .int 2] = _ at hg
      generalize D.lst ((h :: ls).map D.str) = W at *
      generalize D.str h = HH at *
      generalize oL (hdP "machine" 2 h) = RR at *
      simp [var, i0, hg]
    unfold m_read_machine
    rw [fn1]
    show done (seq (asg (gnm 1) _) (seq (asg (gnm 2) _) (seq (Py.ite _ _ skip) (seq (asg (gnm 3) (lstE argN)) (seq (asg (gnm 4) (lstE argN)) (seq (asg (gnm 5) _) (seq (for_ (ienum (slc (var 1) (some (cst (.int 1))) none)) (gtup [(gnm 6), (gnm 7)]) rmB) (seq (Py.ite _ _ skip) (ret _))))))))  [some (.str t), none, none, none, none, none, none, none, none]) = _
    rw [asg_pass st1]
    show done (seq (asg (gnm 2) _) _ [some (.str t), some (.lst ((h :: ls).map D.str)), none, none, none, none, none, none, none]) = _
    rw [asg_pass st2]
    show done (seq (Py.ite _ _ skip) _ [some (.str t), some (.lst ((h :: ls).map D.str)), some (oL (hdP "machine" 2 h)), none, none, none, none, none, none]) = _
    cases e : hdP "machine" 2 h with
    | none =>
      rw [macR_1 q (macH_no e), exc_pass (cl := "InvalidText") (fs := bad t 0) (by
        show orT _ _ [some (.str t), some (.lst ((h :: ls).map D.str)), some .non, none, none, none, none, none, none] = _
        simp [var, onn]) (rais2 rfl)]
      rfl
    | some ns =>
      obtain ⟨n, m, rfl, h1, h3⟩ := hd2 e
      have on : oisN (.lst ([n, m].map nD)) = .ok (.bl false) := rfl
      have j0 : oidx (.lst ([n, m].map nD)) (.int 0) = .ok (nD n) := oidx_l (k := 0) rfl
      have j1 : oidx (.lst ([n, m].map nD)) (.int 1) = .ok (nD m) := oidx_l (k := 1) rfl
      have g : oeq (nD m) (.int 0) = .ok (.bl (decide (m = 0))) := nat_eq m 0
      have cv : orT (tst (un oisN (var 2))) (tst (bin oeq (bin oidx (var 2) (cst (.int 1))) (cst (.int 0)))) [some (.str t), some (.lst ((h :: ls).map D.str)), some (.lst ([n, m].map nD)), none, none, none, none, none, none] = .ok (decide (m = 0)) := by
        generalize D.lst ([n, m].map nD) = H at *
        generalize nD m = M at *
        simp [var, on, j1, g]
      show done (seq (Py.ite _ _ skip) _ [some (.str t), some (.lst ((h :: ls).map D.str)), some (.lst ([n, m].map nD)), none, none, none, none, none, none]) = _
      by_cases ho : m ≠ 0
      · rw [decide_eq_false ho] at cv
        rw [chk_pass cv]
        have hH : macH h = some (n, m) := (macH_is e).trans (if_pos ho)
        have hm0 : 0 < m := by omega
        have bl := blen_str (s := h) (Nat.le_trans (show _ ≤ 90000 by omega) (by decide))
        have ad := nadd h.length 1
        change oadd _ (.int 1) = _ at ad
        have st4 : bin oadd (un blen (bin oidx (var 1) (cst (.int 0)))) (cst (.int 1)) [some (.str t), some (.lst ((h :: ls).map D.str)), some (.lst ([n, m].map nD)), some (.lst []), some (.lst []), none, none, none, none] = .ok (nD (h.length + 1)) := by
          generalize D.lst ((h :: ls).map D.str) = W at *
          generalize nD (h.length + 1) = P1 at *
          generalize nD h.length = P0 at *
          generalize D.str h = HH at *
          simp [var, i0, bl, ad]
        rw [asg_pass (d := .lst []) rfl]
        show done (seq (asg (gnm 4) _) _ [some (.str t), some (.lst ((h :: ls).map D.str)), some (.lst ([n, m].map nD)), some (.lst []), none, none, none, none, none]) = _
        rw [asg_pass (d := .lst []) rfl]
        show done (seq (asg (gnm 5) _) _ [some (.str t), some (.lst ((h :: ls).map D.str)), some (.lst ([n, m].map nD)), some (.lst []), some (.lst []), none, none, none, none]) = _
        rw [asg_pass st4]
        show done (seq (for_ _ _ _) _ [some (.str t), some (.lst ((h :: ls).map D.str)), some (.lst [nD n, nD m]), some (.lst []), some (.lst []), some (nD (h.length + 1)), none, none, none]) = _
        have ie : ienum (slc (var 1) (some (cst (.int 1))) none) [some (.str t), some (.lst ((h :: ls).map D.str)), some (.lst [nD n, nD m]), some (.lst []), some (.lst []), some (nD (h.length + 1)), none, none, none] = .ok (enumL 0 (ls.map D.str)) := by
          have : slc (var 1) (some (cst (.int 1))) none [some (.str t), some (.lst ((h :: ls).map D.str)), some (.lst [nD n, nD m]), some (.lst []), some (.lst []), some (nD (h.length + 1)), none, none, none] = .ok (.lst (ls.map D.str)) := s1
          show ((slc (var 1) (some (cst (.int 1))) none [some (.str t), some (.lst ((h :: ls).map D.str)), some (.lst [nD n, nD m]), some (.lst []), some (.lst []), some (nD (h.length + 1)), none, none, none] >>= fun x => match x with | .lst xs => Res.ok xs | .tup xs => .ok xs | _ => .stuck) >>= fun xs => Res.ok (enumL 0 xs)) = _
          rw [this, bind_ok]
          rfl
        have lp := rm_loop (t := t) h1 h3 hm0 z1 z2 (.lst ((h :: ls).map D.str)) (h.length + 1)
        cases hr : rd (fun _ l => stP n m l) m ls 0 (h.length + 1) with
        | error a =>
          rw [hr] at lp
          rw [macR_2 q hH hr, for_exc ie lp]
          rfl
        | ok xs =>
          rw [hr] at lp
          obtain ⟨at', e', lp, hl, tn, to, o6, o7, o8, rfl⟩ := lp
          rw [for_pass ie lp]
          have bn : blen (.lst ((nxs xs).map rD)) = .ok (nD xs.length) := by rw [lenN, List.length_map]
          have lt := lt_n xs.length m
          have k1 : oidx (.lst [nD n, nD m]) (.int 1) = .ok (nD m) := oidx_l (k := 1) rfl
          have cv2 : tst (bin olt (un blen (var 3)) (bin oidx (var 2) (cst (.int 1)))) [some (.str t), some (.lst ((h :: ls).map D.str)), some (.lst [nD n, nD m]), some (.lst ((nxs xs).map rD)), some (.lst ((oss xs).map rD)), some (nD at'), o6, o7, o8] = .ok (decide (xs.length < m)) := by
            generalize D.lst [nD n, nD m] = H at *
            generalize D.lst ((nxs xs).map rD) = X at *
            generalize nD xs.length = XL at *
            generalize nD m = M at *
            simp [var, bn, k1, lt]
          rw [macR_3 q hH hr]
          by_cases hx : xs.length < m
          · rw [decide_eq_true hx] at cv2
            rw [if_pos hx]
            have bt := blen_str (s := t) (Nat.le_trans (show _ ≤ 90000 by omega) (by decide))
            rw [exc_pass (cl := "InvalidText") (fs := bad t t.length) cv2 (rais2 (by
              generalize nD t.length = TL at *
              generalize D.str t = T at *
              simp [var, bt]))]
            rfl
          · rw [decide_eq_false hx] at cv2
            rw [if_neg hx, chk_pass cv2]
            have hlen : ls.length = m := by
              obtain ⟨_, q2⟩ := rd_len hr
              by_cases hn : ls = []
              · subst hn
                simp at hl
                simp [hl] at hx
                omega
              · have := q2 hn
                omega
            rw [hlen] at tn to
            have mm := mach_made h1 h3 tn to hm0 (by omega)
            show done (ret _ [some (.str t), some (.lst ((h :: ls).map D.str)), some (.lst ([n, m].map nD)), some (.lst ((nxs xs).map rD)), some (.lst ((oss xs).map rD)), some (nD at'), o6, o7, o8]) = .ok (macD n (nxs xs) (oss xs))
            generalize D.lst ([n, m].map nD) = H at *
            generalize D.lst ((nxs xs).map rD) = X at *
            generalize D.lst ((oss xs).map rD) = Y at *
            generalize macD n (nxs xs) (oss xs) = RR at *
            generalize nD n = N at *
            simp [var, j0, mm]
      · rw [decide_eq_true (by omega)] at cv
        rw [macR_1 q ((macH_is e).trans (if_neg ho)), exc_pass (cl := "InvalidText") (fs := bad t 0) cv (rais2 rfl)]
        rfl
end Py.U
namespace Py.U
open PySem
/-! ### the law's reader, of any text -/
def wrD (a : Nat) : D := .tup [.str "wrong", nD a, .non]
def toO {α : Type} (toD : α → D) : Option α → D
  | some x => toD x
  | none => .non
def ltS : SM := (Py.ite (tst (bin oeq (var 1) (cst (.str "row")))) (asg (gnm 7) (call m_law_deed (argC (bin oidx (var 2) (var 6)) (argC (bin osub (bin oadd (bin oidx (var 3) (cst (.int 0))) (var 6)) (cst (.int 1))) argN)))) (asg (gnm 7) (call m_law_state (argC (bin oidx (var 2) (var 6)) (argC (bin oidx (var 3) (cst (.int 0))) (argC (bin oidx (var 3) (cst (.int 1))) argN))))))
def lxB : SM := (seq (Py.ite (tst (bin ogt (var 6) (bin oidx (var 3) (cst (.int 1))))) (ret (tupE (argC (cst (.str "wrong")) (argC (var 4) (argC (cst .non) argN))))) skip)
  (seq ltS
  (seq (Py.ite (tst (un oisN (var 7))) (ret (tupE (argC (cst (.str "wrong")) (argC (var 4) (argC (cst .non) argN))))) skip)
  (seq (app 5 (var 7))
  (asg (gnm 4) (bin oadd (bin oadd (var 4) (un blen (bin oidx (var 2) (var 6)))) (cst (.int 1))))))))
theorem ret_pass {c : TM} {r : SM} {m : EM} {e : Env} {d : D} (h : c e = .ok true) (hm : m e = .ok d) : seq (Py.ite c (ret m) skip) r e = .ok (.ret d) := by
  rw [seq_eq, ite_eq, h, bind_ok, if_pos rfl, ret_eq, hm]
  rfl
theorem wr_eq {a : Nat} {e : Env} {m : EM} (h : m e = .ok (nD a)) : tupE (argC (cst (.str "wrong")) (argC m (argC (cst .non) argN))) e = .ok (wrD a) := by
  rw [tupE_eq, argC_eq, argC_eq, h]
  show chk 3 (wrD a) = _
  exact chk_ok (by decide)
section
variable {α : Type} {f : Nat → String → Option α} {toD : α → D} {m : Nat} {T NM H : D} {h : String} {ls : List String}
  (hH : oidx H (.int 1) = .ok (nD m)) (hd : ∀ x, oisN (toD x) = .ok (.bl false)) (hl : ls.length ≤ 100000) (hs : ∀ l ∈ ls, l.length ≤ 100000)
  (ht : ∀ k, (hk : k < ls.length) → k < m → ∀ AT F o7, ltS [some T, some NM, some (.lst ((h :: ls).map D.str)), some H, AT, F, some (nD (1 + k)), o7] = .ok (.next [some T, some NM, some (.lst ((h :: ls).map D.str)), some H, AT, F, some (nD (1 + k)), some (toO toD (f k ls[k]))]))
include hH hd hl hs ht
abbrev lI (toD : α → D) (T NM H : D) (h : String) (ls : List String) (k at_ : Nat) (acc : List α) (e : Env) : Prop := acc.length = k ∧ ∃ o6 o7, e = [some T, some NM, some (.lst ((h :: ls).map D.str)), some H, some (nD at_), some (.lst (acc.map toD)), o6, o7]
theorem lx_step {k : Nat} (hk : k < ls.length) {at_ : Nat} {acc : List α} {e : Env} (hI : lI toD T NM H h ls k at_ acc e) :
    ((m ≤ k ∨ f k ls[k] = none) → forB (gnm 6) lxB (nD (1 + k)) e = .ok (.ret (wrD at_))) ∧
    (∀ x, k < m → f k ls[k] = some x → ∃ e', forB (gnm 6) lxB (nD (1 + k)) e = .ok (.next e') ∧ lI toD T NM H h ls (k + 1) (at_ + (ls[k].length + 1)) (acc ++ [x]) e') := by
  obtain ⟨ha, o6, o7, rfl⟩ := hI
  have e0 : forB (gnm 6) lxB (nD (1 + k)) [some T, some NM, some (.lst ((h :: ls).map D.str)), some H, some (nD at_), some (.lst (acc.map toD)), o6, o7] = lxB [some T, some NM, some (.lst ((h :: ls).map D.str)), some H, some (nD at_), some (.lst (acc.map toD)), some (nD (1 + k)), o7] := by
    rw [forB_eq, gnm_eq, lift_some, bind_ok]
    rfl
  rw [e0]
  unfold lxB
  have g := gt_n (1 + k) m
  have cg : tst (bin ogt (var 6) (bin oidx (var 3) (cst (.int 1)))) [some T, some NM, some (.lst ((h :: ls).map D.str)), some H, some (nD at_), some (.lst (acc.map toD)), some (nD (1 + k)), o7] = .ok (decide (m < 1 + k)) := by
    generalize nD (1 + k) = K at *
    generalize nD m = M at *
    simp [var, hH, g]
  by_cases hm : m ≤ k
  · rw [decide_eq_true (by omega)] at cg
    exact ⟨fun _ => ret_pass cg (wr_eq rfl), fun x hx => absurd hx (by omega)⟩
  · rw [decide_eq_false (by omega)] at cg
    rw [chk_pass cg]
    have st := ht k hk (by omega) (some (nD at_)) (some (.lst (acc.map toD))) o7
    have e1 : ∀ r : SM, seq ltS r [some T, some NM, some (.lst ((h :: ls).map D.str)), some H, some (nD at_), some (.lst (acc.map toD)), some (nD (1 + k)), o7] = r [some T, some NM, some (.lst ((h :: ls).map D.str)), some H, some (nD at_), some (.lst (acc.map toD)), some (nD (1 + k)), some (toO toD (f k ls[k]))] := fun r => by
      rw [seq_eq, st]
      rfl
    rw [e1]
    refine ⟨fun hn => ?_, fun x _ hx => ?_⟩
    · rw [hn.resolve_left hm]
      exact ret_pass (by simp [var, toO, onn]) (wr_eq rfl)
    · rw [hx]
      show ∃ e', seq (Py.ite _ _ skip) _ [some T, some NM, some (.lst ((h :: ls).map D.str)), some H, some (nD at_), some (.lst (acc.map toD)), some (nD (1 + k)), some (toD x)] = _ ∧ _
      have dx := hd x
      have ix : oidx (.lst ((h :: ls).map D.str)) (nD (1 + k)) = .ok (.str ls[k]) := w_at hk
      have bl := blen_str (s := ls[k]) (Nat.le_trans (hs _ (List.getElem_mem hk)) (by decide))
      have a1 := nadd at_ ls[k].length
      have a2 := nadd (at_ + ls[k].length) 1
      change oadd _ (.int 1) = _ at a2
      have z1 : (acc.map toD).length < SZ := by
        rw [List.length_map, ha]
        exact Nat.lt_of_lt_of_le (show k < 100001 by omega) (by decide)
      have em : (acc ++ [x]).map toD = acc.map toD ++ [toD x] := by rw [List.map_append]; rfl
      refine ⟨_, ?_, by rw [List.length_append, ha]; rfl, some (nD (1 + k)), some (toD x), rfl⟩
      rw [em]
      show _ = Res.ok (Fl.next [some T, some NM, some (.lst ((h :: ls).map D.str)), some H, some (nD (at_ + ls[k].length + 1)), some (.lst (acc.map toD ++ [toD x])), some (nD (1 + k)), some (toD x)])
      generalize D.lst ((h :: ls).map D.str) = W at *
      generalize nD (1 + k) = K at *
      generalize nD (at_ + ls[k].length + 1) = A2 at *
      generalize nD (at_ + ls[k].length) = A1 at *
      generalize nD ls[k].length = A0 at *
      generalize nD at_ = AT at *
      generalize toD x = X at *
      generalize D.str ls[k] = LK at *
      generalize acc.map toD = ACC at *
      simp [var, dx, ix, bl, a1, a2, z1]
theorem lx_loop (p0 : Nat) : match rd f m ls 0 p0 with
    | .error a => forL (forB (gnm 6) lxB) ((List.range ls.length).map fun i => nD (1 + i)) [some T, some NM, some (.lst ((h :: ls).map D.str)), some H, some (nD p0), some (.lst []), none, none] = .ok (.ret (wrD a))
    | .ok xs => ∃ at' e', forL (forB (gnm 6) lxB) ((List.range ls.length).map fun i => nD (1 + i)) [some T, some NM, some (.lst ((h :: ls).map D.str)), some H, some (nD p0), some (.lst []), none, none] = .ok (.next e') ∧ lI toD T NM H h ls ls.length at' xs e' := by
  have q := forL_rd (f := f) (S := m) (b := forB (gnm 6) lxB) (g := fun i => nD (1 + i)) (R := fun a => .ok (.ret (wrD a))) (I := lI toD T NM H h ls) (L := ls) (fun a x xs e h => by rw [forL, h]; rfl) (fun k hk at_ acc e hI => lx_step hH hd hl hs ht hk hI) ls.length 0 (by omega) p0 [] [some T, some NM, some (.lst ((h :: ls).map D.str)), some H, some (nD p0), some (.lst []), none, none] ⟨rfl, none, none, rfl⟩
  rw [List.drop_zero, ← List.range_eq_range'] at q
  cases hh : rd f m ls 0 p0 with
  | error a =>
    rw [hh] at q
    exact q
  | ok xs =>
    rw [hh] at q
    exact q
/-- from the head on -/
def lxT : SM := (seq (asg (gnm 4) (bin oadd (un blen (bin oidx (var 2) (cst (.int 0)))) (cst (.int 1))))
  (seq (asg (gnm 5) (lstE argN))
  (seq (for_ (irng2 (cst (.int 1)) (un blen (var 2))) (gnm 6) lxB)
  (seq (Py.ite (tst (bin olt (un blen (var 5)) (bin oidx (var 3) (cst (.int 1))))) (ret (tupE (argC (cst (.str "wrong")) (argC (un blen (var 0)) (argC (cst .non) argN))))) skip)
  (ret (tupE (argC (cst (.str "right")) (argC (var 3) (argC (var 5) argN)))))))))
theorem lx_tail {t : String} (hT : T = .str t) (tz : t.length ≤ 90000) (hz : h.length ≤ 90000) : done (lxT [some T, some NM, some (.lst ((h :: ls).map D.str)), some H, none, none, none, none]) = .ok (match rd f m ls 0 (h.length + 1) with
    | .error a => wrD a
    | .ok xs => if xs.length < m then wrD t.length else .tup [.str "right", H, .lst (xs.map toD)]) := by
  have i0 : oidx (.lst ((h :: ls).map D.str)) (.int 0) = .ok (.str h) := oidx_l (k := 0) rfl
  have bl := blen_str (s := h) (Nat.le_trans hz (by decide))
  have ad := nadd h.length 1
  change oadd _ (.int 1) = _ at ad
  have bw : blen (.lst ((h :: ls).map D.str)) = .ok (nD (ls.length + 1)) := by
    rw [lenN]
    simp
  have st : bin oadd (un blen (bin oidx (var 2) (cst (.int 0)))) (cst (.int 1)) [some T, some NM, some (.lst ((h :: ls).map D.str)), some H, none, none, none, none] = .ok (nD (h.length + 1)) := by
    generalize D.lst ((h :: ls).map D.str) = W at *
    generalize nD (h.length + 1) = P1 at *
    generalize nD h.length = P0 at *
    generalize D.str h = HH at *
    simp [var, i0, bl, ad]
  unfold lxT
  rw [asg_pass st]
  show done (seq (asg (gnm 5) _) _ [some T, some NM, some (.lst ((h :: ls).map D.str)), some H, some (nD (h.length + 1)), none, none, none]) = _
  rw [asg_pass (d := .lst []) rfl]
  show done (seq (for_ _ _ _) _ [some T, some NM, some (.lst ((h :: ls).map D.str)), some H, some (nD (h.length + 1)), some (.lst []), none, none]) = _
  have rg : irng2 (cst (.int 1)) (un blen (var 2)) [some T, some NM, some (.lst ((h :: ls).map D.str)), some H, some (nD (h.length + 1)), some (.lst []), none, none] = .ok ((List.range ls.length).map fun i => nD (1 + i)) := irng2_1 bw (by omega)
  have lp := lx_loop hH hd hl hs ht (h.length + 1)
  cases hr : rd f m ls 0 (h.length + 1) with
  | error a =>
    rw [hr] at lp
    rw [for_ret rg lp]
    rfl
  | ok xs =>
    rw [hr] at lp
    obtain ⟨at', e', lp, hlen, o6, o7, rfl⟩ := lp
    rw [for_pass rg lp]
    have bn : blen (.lst (xs.map toD)) = .ok (nD xs.length) := lenN xs _
    have lt := lt_n xs.length m
    have cv : tst (bin olt (un blen (var 5)) (bin oidx (var 3) (cst (.int 1)))) [some T, some NM, some (.lst ((h :: ls).map D.str)), some H, some (nD at'), some (.lst (xs.map toD)), o6, o7] = .ok (decide (xs.length < m)) := by
      generalize D.lst (xs.map toD) = X at *
      generalize nD xs.length = XL at *
      generalize nD m = M at *
      simp [var, bn, hH, lt]
    have bt : un blen (var 0) [some T, some NM, some (.lst ((h :: ls).map D.str)), some H, some (nD at'), some (.lst (xs.map toD)), o6, o7] = .ok (nD t.length) := by
      rw [un_eq, var_eq (d := T) rfl, hT]
      exact blen_str (Nat.le_trans tz (by decide))
    dsimp only
    by_cases hx : xs.length < m
    · rw [decide_eq_true hx] at cv
      rw [if_pos hx, ret_pass cv (wr_eq bt)]
      rfl
    · rw [decide_eq_false hx] at cv
      rw [if_neg hx, chk_pass cv]
      have z3 : (3 : Nat) ≤ SZ := by decide
      generalize D.lst (xs.map toD) = X at *
      simp [var, chk, z3]
end
theorem law_read_pre {t h : String} {ls : List String} (ht : t.length ≤ 90000) (q : spL '\n' t = h :: ls) {NM HD : D} (hh : m_law_head [.str h, NM] = .ok HD) : m_law_read [.str t, NM] = done (seq (Py.ite (tst (un oisN (var 3))) (ret (tupE (argC (cst (.str "wrong")) (argC (cst (.int 0)) (argC (cst .non) argN))))) skip) lxT [some (.str t), some NM, some (.lst ((h :: ls).map D.str)), some HD, none, none, none, none]) := by
  have sp := split_L (a := t) nwl (by decide) (Nat.le_trans (show _ ≤ 90002 by omega) (by decide))
  rw [q] at sp
  have i0 : oidx (.lst ((h :: ls).map D.str)) (.int 0) = .ok (.str h) := oidx_l (k := 0) rfl
  have st1 : mtx osplit (var 0) (cst (.str "\n")) [some (.str t), some NM, none, none, none, none, none, none] = .ok (.lst ((h :: ls).map D.str)) := by
    rw [mtx_eq]
    exact sp
  have st2 : call m_law_head (argC (bin oidx (var 2) (cst (.int 0))) (argC (var 1) argN)) [some (.str t), some NM, some (.lst ((h :: ls).map D.str)), none, none, none, none, none] = .ok HD := by
    generalize D.lst ((h :: ls).map D.str) = W at *
    generalize D.str h = HH at *
    simp [var, i0, hh]
  unfold m_law_read
  rw [fn2]
  show done (seq (asg (gnm 2) _) (seq (asg (gnm 3) _) (seq (Py.ite _ _ skip) lxT)) [some (.str t), some NM, none, none, none, none, none, none]) = _
  rw [asg_pass st1]
  show done (seq (asg (gnm 3) _) _ [some (.str t), some NM, some (.lst ((h :: ls).map D.str)), none, none, none, none, none]) = _
  rw [asg_pass st2]
  rfl
def row3 (p : (Nat × Nat × Nat) × List Deed) : D := .tup [.str "right", .lst [nD p.1.1, nD p.1.2.1, nD p.1.2.2], .lst (p.2.map Deed.d)]
def pD (x : List Nat × List Nat) : D := .tup [rD x.1, rD x.2]
def mac3 (p : (Nat × Nat) × List (List Nat × List Nat)) : D := .tup [.str "right", .lst [nD p.1.1, nD p.1.2], .lst (p.2.map pD)]
theorem law_read_row {t : String} (ht : t.length ≤ 90000) : m_law_read [.str t, .str "row"] = .ok (match rowR t with
    | .error a => wrD a
    | .ok p => row3 p) := by
  cases q : spL '\n' t with
  | nil => exact absurd q (spL_ne '\n' t)
  | cons h ls =>
    obtain ⟨z0, z1, z2⟩ := lines_sz ht q
    have hh := law_head_row (l := h) (Nat.le_trans (show _ ≤ 90002 by omega) (by decide))
    rw [law_read_pre ht q hh]
    cases e : rowH h with
    | none =>
      rw [rowR_1 q e]
      show done (seq _ _ [some (.str t), some (.str "row"), some (.lst ((h :: ls).map D.str)), some .non, none, none, none, none]) = .ok (wrD 0)
      rw [ret_pass (by simp [var, onn]) (wr_eq (a := 0) rfl)]
      rfl
    | some p =>
      obtain ⟨n, m, o⟩ := p
      have on : oisN (.lst [nD n, nD m, nD o]) = .ok (.bl false) := rfl
      show done (seq _ _ [some (.str t), some (.str "row"), some (.lst ((h :: ls).map D.str)), some (.lst [nD n, nD m, nD o]), none, none, none, none]) = _
      rw [chk_pass (by
        generalize D.lst [nD n, nD m, nD o] = H at *
        simp [var, on])]
      have tl := lx_tail (f := fun k l => dP (n + k) (spL ' ' l)) (toD := Deed.d) (m := m) (T := .str t) (NM := .str "row") (H := .lst [nD n, nD m, nD o]) (h := h) (ls := ls) (oidx_l (k := 1) rfl) (fun x => by cases x <;> rfl) z1 z2 (fun k hk _ AT F o7 => by
        have ix : oidx (.lst ((h :: ls).map D.str)) (nD (1 + k)) = .ok (.str ls[k]) := w_at hk
        have i0 : oidx (.lst [nD n, nD m, nD o]) (.int 0) = .ok (nD n) := oidx_l (k := 0) rfl
        have a1 := nadd n (1 + k)
        have s1 := nsub (a := n + (1 + k)) (b := 1) (by omega)
        rw [show n + (1 + k) - 1 = n + k by omega] at s1
        change osub _ (.int 1) = _ at s1
        have ld := law_deed_gen (l := ls[k]) (k := n + k) (Nat.le_trans (show _ ≤ 100002 by have := z2 _ (List.getElem_mem hk); omega) (by decide))
        have er : oeq (.str "row") (.str "row") = .ok (.bl true) := rfl
        have e2 : toO Deed.d (dP (n + k) (spL ' ' ls[k])) = oDd (dP (n + k) (spL ' ' ls[k])) := by cases dP (n + k) (spL ' ' ls[k]) <;> rfl
        rw [e2]
        unfold ltS
        generalize D.lst ((h :: ls).map D.str) = W at *
        generalize D.lst [nD n, nD m, nD o] = H at *
        generalize oDd (dP (n + k) (spL ' ' ls[k])) = RR at *
        generalize D.str ls[k] = LK at *
        generalize D.str "row" = NM at *
        generalize nD (n + (1 + k)) = A1 at *
        generalize nD (n + k) = A2 at *
        generalize nD (1 + k) = K at *
        generalize nD n = N at *
        simp [var, ix, i0, a1, s1, ld, er]) (t := t) rfl ht z0
      rw [tl]
      cases hr : rd (fun k l => dP (n + k) (spL ' ' l)) m ls 0 (h.length + 1) with
      | error a => rw [rowR_2 q e hr]
      | ok xs =>
        rw [rowR_3 q e hr]
        dsimp only
        by_cases hx : xs.length < m
        · rw [if_pos hx, if_pos hx]
        · rw [if_neg hx, if_neg hx]
          rfl
theorem law_read_mac {t : String} (ht : t.length ≤ 90000) : m_law_read [.str t, .str "machine"] = .ok (match macR t with
    | .error a => wrD a
    | .ok p => mac3 p) := by
  cases q : spL '\n' t with
  | nil => exact absurd q (spL_ne '\n' t)
  | cons h ls =>
    obtain ⟨z0, z1, z2⟩ := lines_sz ht q
    have hh := law_head_mac (l := h) (Nat.le_trans (show _ ≤ 90002 by omega) (by decide))
    rw [law_read_pre ht q hh]
    cases e : macH h with
    | none =>
      rw [macR_1 q e]
      show done (seq _ _ [some (.str t), some (.str "machine"), some (.lst ((h :: ls).map D.str)), some .non, none, none, none, none]) = .ok (wrD 0)
      rw [ret_pass (by simp [var, onn]) (wr_eq (a := 0) rfl)]
      rfl
    | some p =>
      obtain ⟨n, m⟩ := p
      have hp : 1 ≤ n ∧ n ≤ 3 ∧ 0 < m := by
        cases e2 : hdP "machine" 2 h with
        | none =>
          rw [macH_no e2] at e
          cases e
        | some ns =>
          obtain ⟨a, b, rfl, h1, h3⟩ := hd2 e2
          rw [macH_is e2] at e
          by_cases hb : b ≠ 0
          · rw [if_pos hb] at e
            cases e
            exact ⟨h1, h3, by omega⟩
          · rw [if_neg hb] at e
            cases e
      obtain ⟨h1, h3, hm0⟩ := hp
      have on : oisN (.lst [nD n, nD m]) = .ok (.bl false) := rfl
      show done (seq _ _ [some (.str t), some (.str "machine"), some (.lst ((h :: ls).map D.str)), some (.lst [nD n, nD m]), none, none, none, none]) = _
      rw [chk_pass (by
        generalize D.lst [nD n, nD m] = H at *
        simp [var, on])]
      have tl := lx_tail (f := fun _ l => stP n m l) (toD := pD) (m := m) (T := .str t) (NM := .str "machine") (H := .lst [nD n, nD m]) (h := h) (ls := ls) (oidx_l (k := 1) rfl) (fun x => rfl) z1 z2 (fun k hk _ AT F o7 => by
        have ix : oidx (.lst ((h :: ls).map D.str)) (nD (1 + k)) = .ok (.str ls[k]) := w_at hk
        have i0 : oidx (.lst [nD n, nD m]) (.int 0) = .ok (nD n) := oidx_l (k := 0) rfl
        have i1 : oidx (.lst [nD n, nD m]) (.int 1) = .ok (nD m) := oidx_l (k := 1) rfl
        have ld := (state_gen (l := ls[k]) h1 h3 hm0 (Nat.le_trans (show _ ≤ 100002 by have := z2 _ (List.getElem_mem hk); omega) (by decide))).2
        have er : oeq (.str "machine") (.str "row") = .ok (.bl false) := rfl
        have e2 : toO pD (stP n m ls[k]) = oP (stP n m ls[k]) := by cases stP n m ls[k] <;> rfl
        rw [e2]
        unfold ltS
        generalize D.lst ((h :: ls).map D.str) = W at *
        generalize D.lst [nD n, nD m] = H at *
        generalize oP (stP n m ls[k]) = RR at *
        generalize D.str ls[k] = LK at *
        generalize D.str "machine" = NM at *
        generalize nD (1 + k) = K at *
        generalize nD n = N at *
        generalize nD m = M at *
        simp [var, ix, i0, i1, ld, er]) (t := t) rfl ht z0
      rw [tl]
      cases hr : rd (fun _ l => stP n m l) m ls 0 (h.length + 1) with
      | error a => rw [macR_2 q e hr]
      | ok xs =>
        rw [macR_3 q e hr]
        dsimp only
        by_cases hx : xs.length < m
        · rw [if_pos hx, if_pos hx]
        · rw [if_neg hx, if_neg hx]
          rfl
end Py.U
namespace Py.U
open PySem
/-! ### what is told of a text -/
theorem tryX_exc {x : String} {es : List String} {i : Nat} {b : SM} {h : String → List (String × D) → SM} {e : Env} {fs : List (String × D)} {d : D} (h1 : b e = .exc x fs) (h2 : (es.contains x && decide (i < e.length)) = true) (h3 : h x fs (e.set i none) = .ok (.ret d)) : tryX x es i b h e = .ok (.ret d) := by
  unfold tryX
  rw [h1]
  show (if (es.contains x && decide (i < e.length)) = true then (if x = x then noexc (h x fs (e.set i none)) >>= sufE i else .exc x fs) else .stuck) = _
  rw [if_pos h2, if_pos rfl, h3]
  rfl
theorem refused_ok {nm t : String} {a : Nat} (hb : (Py.ite (tst (bin oeq (var 0) (cst (.str "row")))) (Py.drop (call m_read_row (argC (var 1) argN))) (Py.drop (call m_read_machine (argC (var 1) argN)))) [some (.str nm), some (.str t), some (nD a), none] = .exc "InvalidText" (bad t a)) : m_law_refused [.str nm, .str t, nD a] = .ok (.bl true) := by
  have x1 : ∀ e, xfld ES EFL "InvalidText" "text" (bad t a) e = .ok (.str t) := fun _ => rfl
  have x2 : ∀ e, xfld ES EFL "InvalidText" "at" (bad t a) e = .ok (nD a) := fun _ => rfl
  have xi : ∀ e, xis ES EALL "InvalidText" ["CarryError"] e = .ok (.bl true) := fun _ => rfl
  have s : oisi CS [.str] (.str t) = .ok (.bl true) := rfl
  have i : oisi CS [.int] (nD a) = .ok (.bl true) := rfl
  have b : oisi CS [.bl] (nD a) = .ok (.bl false) := rfl
  have n1 : Py.one (.str t) (.str t) = .ok (.bl false) := by
    show Res.ok (D.bl (!(t == t))) = _
    rw [beq_self_eq_true]
    rfl
  have e1 : oeq (nD a) (nD a) = .ok (.bl true) := by
    have := nat_eq a a
    rw [decide_eq_true rfl] at this
    exact this
  unfold m_law_refused
  rw [fn3]
  unfold b__law_refused
  show done (seq (tryX _ _ _ _ _) _ [some (.str nm), some (.str t), some (nD a), none]) = _
  rw [seq_eq, tryX_exc (d := .bl true) hb rfl ?_]
  · rfl
  · show (seq _ _) [some (.str nm), some (.str t), some (nD a), none] = _
    generalize D.str nm = NM at *
    generalize bad t a = BB at *
    generalize D.str t = T at *
    generalize nD a = A at *
    simp [var, x1, x2, xi, s, i, b, n1, e1]
theorem same_deed (k : Nat) {x : Deed} {m : Nat} (h : x.ok m) : m_law_same (k + 3) [x.d, x.d] = .ok (.bl true) := by
  have ll := nums_len h
  by_cases hc : x.isCnt = true
  · cases x with
    | count p r ps =>
      obtain ⟨_, _, _, h4, _⟩ := h
      refine same_t (k := k + 2) (fun d hd => ?_) (by simp)
      simp only [List.mem_cons, List.not_mem_nil, or_false] at hd
      rcases hd with rfl | rfl | rfl | rfl
      · exact same_s (k + 1) _
      · exact same_n (k + 1) p
      · exact same_n (k + 1) r
      · exact same_rD k (r := ps) (by omega)
    | _ => cases hc
  · rw [deed_is (by simpa using hc)]
    refine same_t (k := k + 2) (fun d hd => ?_) (by
      rw [List.length_cons, List.length_map]
      omega)
    rcases List.mem_cons.mp hd with rfl | hd
    · exact same_s (k + 1) _
    · obtain ⟨a, _, rfl⟩ := List.mem_map.mp hd
      exact same_n (k + 1) a
theorem macR_ok {t : String} (ht : t.length ≤ 90000) {n m : Nat} {xs : List (List Nat × List Nat)} (h : macR t = .ok ((n, m), xs)) : n ≤ 3 ∧ xs.length ≤ 100000 ∧ ∀ p ∈ xs, p.1.length = 2 ^ n ∧ p.2.length = 2 ^ n := by
  cases q : spL '\n' t with
  | nil => exact absurd q (spL_ne '\n' t)
  | cons hd ls =>
    obtain ⟨z0, z1, z2⟩ := lines_sz ht q
    cases e : macH hd with
    | none =>
      rw [macR_1 q e] at h
      cases h
    | some p =>
      obtain ⟨n2, m2⟩ := p
      cases hr : rd (fun _ l => stP n2 m2 l) m2 ls 0 (hd.length + 1) with
      | error a =>
        rw [macR_2 q e hr] at h
        cases h
      | ok ys =>
        rw [macR_3 q e hr] at h
        by_cases hl : ys.length < m2
        · rw [if_pos hl] at h
          cases h
        · rw [if_neg hl] at h
          cases h
          refine ⟨?_, by rw [(rd_len hr).1]; exact z1, fun p hp => ?_⟩
          · cases e2 : hdP "machine" 2 hd with
            | none =>
              rw [macH_no e2] at e
              cases e
            | some ns =>
              obtain ⟨a, b, rfl, h1, h3⟩ := hd2 e2
              rw [macH_is e2] at e
              by_cases hb : b ≠ 0
              · rw [if_pos hb] at e
                cases e
                exact h3
              · rw [if_neg hb] at e
                cases e
          · obtain ⟨i, hi, rfl⟩ := List.mem_iff_getElem.mp hp
            obtain ⟨l, e3⟩ := rd_get hr i hi
            obtain ⟨p1, p2, _, _⟩ := stP_some e3
            exact ⟨p1, p2⟩
theorem told_row {t : String} (ht : t.length ≤ 90000) : m_law_told [.str "row", .str t] = .ok (.bl true) := by
  have lr := law_read_row ht
  have rr := read_row_gen ht
  have er : oeq (.str "row") (.str "row") = .ok (.bl true) := rfl
  cases h : rowR t with
  | error a =>
    rw [h] at lr rr
    change _ = Res.exc "InvalidText" (bad t a) at rr
    change _ = Res.ok (wrD a) at lr
    have rf := refused_ok (nm := "row") (t := t) (a := a) (by
      rw [ite_eq]
      show ((oeq (.str "row") (.str "row")) >>= truthy) >>= _ = _
      rw [er]
      show Py.drop (call m_read_row (argC (var 1) argN)) [some (.str "row"), some (.str t), some (nD a), none] = _
      show ((m_read_row [.str t]) >>= fun _ => _) = _
      rw [rr]
      rfl)
    have i0 : oidx (wrD a) (.int 0) = .ok (.str "wrong") := oidx_t (k := 0) rfl
    have i1 : oidx (wrD a) (.int 1) = .ok (nD a) := oidx_t (k := 1) rfl
    have ew : oeq (.str "wrong") (.str "wrong") = .ok (.bl true) := rfl
    unfold m_law_told
    rw [fn2]
    unfold b__law_told
    generalize wrD a = W at *
    generalize nD a = A at *
    generalize D.str t = T at *
    generalize D.str "row" = NM at *
    simp [var, lr, i0, i1, ew, rf]
  | ok p =>
    obtain ⟨⟨n, m, o⟩, xs⟩ := p
    obtain ⟨h1, h3, hr, hl⟩ := rowR_ok ht h
    rw [h] at lr rr
    change _ = Res.ok (rowD n xs o) at rr
    change _ = Res.ok (row3 ((n, m, o), xs)) at lr
    have i0 : oidx (row3 ((n, m, o), xs)) (.int 0) = .ok (.str "right") := oidx_t (k := 0) rfl
    have i1 : oidx (row3 ((n, m, o), xs)) (.int 1) = .ok (.lst [nD n, nD m, nD o]) := oidx_t (k := 1) rfl
    have i2 : oidx (row3 ((n, m, o), xs)) (.int 2) = .ok (.lst (xs.map Deed.d)) := oidx_t (k := 2) rfl
    have j0 : oidx (.lst [nD n, nD m, nD o]) (.int 0) = .ok (nD n) := oidx_l (k := 0) rfl
    have j2 : oidx (.lst [nD n, nD m, nD o]) (.int 2) = .ok (nD o) := oidx_l (k := 2) rfl
    have ew : oeq (.str "right") (.str "wrong") = .ok (.bl false) := rfl
    have c : oisi CS [.cls "Row"] (rowD n xs o) = .ok (.bl true) := rfl
    have a1 := row_inputs n xs o
    have a2 := row_deeds n xs o
    have a3 : oattr ["Row"] "out" (rowD n xs o) = .ok (nD o) := rfl
    have s1 := same_n 11 n
    have s2 := same_n 11 o
    have s3 : m_law_same 12 [.tup (xs.map Deed.d), .tup (xs.map Deed.d)] = .ok (.bl true) := same_t (k := 11) (fun d hd => by
      obtain ⟨x, hx, rfl⟩ := List.mem_map.mp hd
      obtain ⟨i, hi, rfl⟩ := List.mem_iff_getElem.mp hx
      exact same_deed 8 (hr i hi)) (by rw [List.length_map]; exact hl)
    have bt : btuple (.lst (xs.map Deed.d)) = .ok (.tup (xs.map Deed.d)) := rfl
    simp only [Nat.reduceAdd] at s1 s2
    unfold m_law_told
    rw [fn2]
    unfold b__law_told
    generalize row3 ((n, m, o), xs) = W at *
    generalize D.lst [nD n, nD m, nD o] = H at *
    generalize D.lst (xs.map Deed.d) = DL at *
    generalize D.tup (xs.map Deed.d) = DT at *
    generalize rowD n xs o = R at *
    generalize nD n = N at *
    generalize nD o = O at *
    generalize D.str t = T at *
    generalize D.str "row" = NM at *
    simp [var, lr, rr, i0, i1, i2, j0, j2, ew, er, c, a1, a2, a3, s1, s2, s3, bt]
theorem told_mac {t : String} (ht : t.length ≤ 90000) : m_law_told [.str "machine", .str t] = .ok (.bl true) := by
  have lr := law_read_mac ht
  have rr := read_machine_gen ht
  have er : oeq (.str "machine") (.str "row") = .ok (.bl false) := rfl
  cases h : macR t with
  | error a =>
    rw [h] at lr rr
    change _ = Res.exc "InvalidText" (bad t a) at rr
    change _ = Res.ok (wrD a) at lr
    have rf := refused_ok (nm := "machine") (t := t) (a := a) (by
      rw [ite_eq]
      show ((oeq (.str "machine") (.str "row")) >>= truthy) >>= _ = _
      rw [er]
      show Py.drop (call m_read_machine (argC (var 1) argN)) [some (.str "machine"), some (.str t), some (nD a), none] = _
      show ((m_read_machine [.str t]) >>= fun _ => _) = _
      rw [rr]
      rfl)
    have i0 : oidx (wrD a) (.int 0) = .ok (.str "wrong") := oidx_t (k := 0) rfl
    have i1 : oidx (wrD a) (.int 1) = .ok (nD a) := oidx_t (k := 1) rfl
    have ew : oeq (.str "wrong") (.str "wrong") = .ok (.bl true) := rfl
    unfold m_law_told
    rw [fn2]
    unfold b__law_told
    generalize wrD a = W at *
    generalize nD a = A at *
    generalize D.str t = T at *
    generalize D.str "machine" = NM at *
    simp [var, lr, i0, i1, ew, rf]
  | ok p =>
    obtain ⟨⟨n, m⟩, xs⟩ := p
    obtain ⟨h3, hl, hp⟩ := macR_ok ht h
    have p8 : 2 ^ n ≤ 8 := Nat.pow_le_pow_right (by decide) h3
    rw [h] at lr rr
    change _ = Res.ok (macD n (nxs xs) (oss xs)) at rr
    change _ = Res.ok (mac3 ((n, m), xs)) at lr
    have i0 : oidx (mac3 ((n, m), xs)) (.int 0) = .ok (.str "right") := oidx_t (k := 0) rfl
    have i1 : oidx (mac3 ((n, m), xs)) (.int 1) = .ok (.lst [nD n, nD m]) := oidx_t (k := 1) rfl
    have i2 : oidx (mac3 ((n, m), xs)) (.int 2) = .ok (.lst (xs.map pD)) := oidx_t (k := 2) rfl
    have j0 : oidx (.lst [nD n, nD m]) (.int 0) = .ok (nD n) := oidx_l (k := 0) rfl
    have ew : oeq (.str "right") (.str "wrong") = .ok (.bl false) := rfl
    have c : oisi CS [.cls "Machine"] (macD n (nxs xs) (oss xs)) = .ok (.bl true) := rfl
    have a1 : oattr ["Row", "Machine"] "inputs" (macD n (nxs xs) (oss xs)) = .ok (nD n) := rfl
    have a2 : oattr ["Machine"] "nexts" (macD n (nxs xs) (oss xs)) = .ok (.tup ((nxs xs).map rD)) := rfl
    have a3 : oattr ["Machine"] "outs" (macD n (nxs xs) (oss xs)) = .ok (.tup ((oss xs).map rD)) := rfl
    have s1 := same_n 11 n
    have s2 : m_law_same 12 [.tup ((nxs xs).map rD), .tup ((nxs xs).map rD)] = .ok (.bl true) := same_t (k := 11) (fun d hd => by
      obtain ⟨r, hr, rfl⟩ := List.mem_map.mp hd
      obtain ⟨x, hx, rfl⟩ := List.mem_map.mp hr
      exact same_rD 9 (by rw [(hp x hx).1]; omega)) (by rw [List.length_map, List.length_map]; exact hl)
    have s3 : m_law_same 12 [.tup ((oss xs).map rD), .tup ((oss xs).map rD)] = .ok (.bl true) := same_t (k := 11) (fun d hd => by
      obtain ⟨r, hr, rfl⟩ := List.mem_map.mp hd
      obtain ⟨x, hx, rfl⟩ := List.mem_map.mp hr
      exact same_rD 9 (by rw [(hp x hx).2]; omega)) (by rw [List.length_map, List.length_map]; exact hl)
    simp only [Nat.reduceAdd] at s1
    have zz : xs.length ≤ SZ := Nat.le_trans hl (by decide)
    obtain ⟨W, hW⟩ : ∃ W, W = mac3 ((n, m), xs) := ⟨_, rfl⟩
    rw [← hW] at i0 i1 i2 lr
    have l1 : ∀ M : D, lcE (iseq (bin oidx (var 2) (cst (.int 2)))) [5] (gnm 5) yes (bin oidx (var 5) (cst (.int 0))) [some (.str "machine"), some (.str t), some W, none, some M, none] = .ok (.lst ((nxs xs).map rD)) := fun M => by
      have := lc_mapI (it := iseq (bin oidx (var 2) (cst (.int 2)))) (vs := [5]) (g := gnm 5) (elt := bin oidx (var 5) (cst (.int 0))) (e := [some (.str "machine"), some (.str t), some W, none, some M, none]) (ys := xs) (k := pD) (h := fun p => rD p.1) (by
        rw [iseq_eq, bin_eq, var_eq (d := W) rfl, bind_ok, cst_eq, bind_ok, i2]
        rfl) zz fun p hp => ⟨_, rfl, by
          show oidx (.tup [rD p.1, rD p.2]) (.int ((0 : Nat) : Int)) = _
          exact oidx_t (k := 0) rfl⟩
      rw [this, List.map_map]
      rfl
    have l2 : ∀ M : D, lcE (iseq (bin oidx (var 2) (cst (.int 2)))) [5] (gnm 5) yes (bin oidx (var 5) (cst (.int 1))) [some (.str "machine"), some (.str t), some W, none, some M, none] = .ok (.lst ((oss xs).map rD)) := fun M => by
      have := lc_mapI (it := iseq (bin oidx (var 2) (cst (.int 2)))) (vs := [5]) (g := gnm 5) (elt := bin oidx (var 5) (cst (.int 1))) (e := [some (.str "machine"), some (.str t), some W, none, some M, none]) (ys := xs) (k := pD) (h := fun p => rD p.2) (by
        rw [iseq_eq, bin_eq, var_eq (d := W) rfl, bind_ok, cst_eq, bind_ok, i2]
        rfl) zz fun p hp => ⟨_, rfl, by
          show oidx (.tup [rD p.1, rD p.2]) (.int ((1 : Nat) : Int)) = _
          exact oidx_t (k := 1) rfl⟩
      rw [this, List.map_map]
      rfl
    have b1 : btuple (.lst ((nxs xs).map rD)) = .ok (.tup ((nxs xs).map rD)) := rfl
    have b2 : btuple (.lst ((oss xs).map rD)) = .ok (.tup ((oss xs).map rD)) := rfl
    unfold m_law_told
    rw [fn2]
    unfold b__law_told
    generalize D.lst [nD n, nD m] = H at *
    generalize D.lst ((nxs xs).map rD) = NL at *
    generalize D.tup ((nxs xs).map rD) = NT at *
    generalize D.lst ((oss xs).map rD) = OL at *
    generalize D.tup ((oss xs).map rD) = OT at *
    generalize macD n (nxs xs) (oss xs) = R at *
    generalize nD n = N at *
    generalize D.str t = T at *
    generalize D.str "machine" = NM at *
    simp [var, lr, rr, i0, i1, j0, ew, er, c, a1, a2, a3, s1, s2, s3, l1, l2, b1, b2]
end Py.U
namespace Py.U
open PySem
/-! ### draws, statements that give back -/
def RetP (Q : D → Prop) (f : Fl) : Prop := ∃ d, f = .ret d ∧ Q d
theorem done_r {Q : D → Prop} {r : Res Fl} (h : Always (RetP Q) r) : Always Q (done r) := Always.done (h.mono (by
  rintro f ⟨d, rfl, hd⟩
  exact hd))
theorem ret_r {Q : D → Prop} {m : EM} {e : Env} (h : Always Q (m e)) : Always (RetP Q) (ret m e) := by
  rw [ret_eq]
  exact h.bind fun d hd => ⟨d, rfl, hd⟩
theorem ret_1 {Q : D → Prop} {m : EM} {e : Env} {d : D} (h : m e = .ok d) (hd : Q d) : Always (RetP Q) (ret m e) := ret_r (by rw [h]; exact hd)
theorem ite_ret {Q : D → Prop} {t : TM} {b r : SM} {e : Env} (ht : t e = .ok true) (hb : Always (RetP Q) (b e)) : Always (RetP Q) (seq (Py.ite t b skip) r e) := by
  rw [seq_eq, ite_eq, ht, bind_ok, if_pos rfl]
  refine hb.bind ?_
  rintro f ⟨d, rfl, hd⟩
  exact ⟨d, rfl, hd⟩
theorem chk_p1 {P : Fl → Prop} {t : TM} {b r : SM} {e : Env} (ht : t e = .ok false) (k : Always P (r e)) : Always P (seq (Py.ite t b skip) r e) := by
  rw [chk_pass ht]
  exact k
theorem asg_d {P : Fl → Prop} {i : Nat} {m : EM} {r : SM} {e : Env} {d : D} (h : m e = .ok d) (k : Always P (r (e.set i (some d)))) : Always P (seq (asg (gnm i) m) r e) := by
  rw [asg_pass h]
  exact k
/-- pick(many) == 0 -/
theorem pick0 {e : Env} {i : Nat} (n : Nat) (h : e[i]? = some (some (.drw (.inl false)))) (h0 : 0 < n) (h1 : n < 1000000) : Always (fun _ => True) (tst (bin oeq (call m_law_pick (argC (var i) (argC (cst (nD n)) argN))) (cst (.int 0))) e) := by
  rw [tst_eq, bin_eq]
  refine ((pickc (Q := fun d => ∃ k : Nat, d = nD k) n h rfl rfl h0 h1 fun k _ => ⟨k, rfl⟩).bind (Q := fun d => ∃ k : Nat, d = nD k) ?_).bind (Q := fun d => ∃ c : Bool, d = .bl c) ?_
  · rintro _ ⟨k, rfl⟩
    rw [cst_eq, bind_ok]
    have := nat_eq k 0
    have this' : oeq (nD k) (.int 0) = .ok (.bl (decide (k = 0))) := this
    rw [this']
    exact ⟨_, rfl⟩
  · rintro _ ⟨c, rfl⟩
    trivial
/-! ### deeds drawn -/
abbrev poolD : D := .drw (.inl false)
end Py.U
namespace Py.U
open PySem
/-! ### words and lines changed -/
def StrP (L : Nat) (d : D) : Prop := ∃ s : String, d = .str s ∧ s.length ≤ L
theorem StrP.mono {L M : Nat} {d : D} (h : StrP L d) (hm : L ≤ M) : StrP M d := by
  obtain ⟨s, e, l⟩ := h
  exact ⟨s, e, by omega⟩
def Words (L N : Nat) (d : D) : Prop := ∃ M : List String, d = .lst (M.map D.str) ∧ (∀ s ∈ M, s.length ≤ L) ∧ 0 < M.length ∧ M.length ≤ N
theorem app_str {a b : String} (h : a.length + b.length ≤ SZ) : oadd (.str a) (.str b) = .ok (.str (a ++ b)) := if_pos h
theorem add_l {a b : List String} (h : a.length + b.length ≤ SZ) : oadd (.lst (a.map D.str)) (.lst (b.map D.str)) = .ok (.lst ((a ++ b).map D.str)) := by
  show (if (a.map D.str).length + (b.map D.str).length ≤ SZ then Res.ok (D.lst (a.map D.str ++ b.map D.str)) else .stuck) = _
  rw [List.length_map, List.length_map, if_pos h, List.map_append]
theorem take_l {ws : List String} {p : Nat} (h : p ≤ ws.length) : oslc (.lst (ws.map D.str)) none (some (p : Int)) = .ok (.lst ((ws.take p).map D.str)) := by
  show Res.ok (D.lst (cut (ws.map D.str) none (some (p : Int)))) = _
  rw [cut_take _ (by simpa using h), List.map_take]
theorem drop_l {ws : List String} {p : Nat} (h : p ≤ ws.length) : oslc (.lst (ws.map D.str)) (some (p : Int)) none = .ok (.lst ((ws.drop p).map D.str)) := by
  show Res.ok (D.lst (cut (ws.map D.str) (some (p : Int)) none)) = _
  rw [cut_from _ (by simpa using h), List.map_drop]
theorem at_l {ws : List String} {p : Nat} (h : p < ws.length) : oidx (.lst (ws.map D.str)) (nD p) = .ok (.str ws[p]) := oidx_l (k := p) (by
  rw [List.getElem?_map, List.getElem?_eq_getElem h]
  rfl)
theorem take_s {s : String} {p : Nat} (h : p ≤ s.length) (hz : s.length ≤ SZ) : oslc (.str s) none (some (p : Int)) = .ok (.str (String.ofList (s.toList.take p))) := by
  show (if s.length ≤ SZ then Res.ok (D.str (String.ofList (cut s.toList none (some (p : Int))))) else .stuck) = _
  rw [if_pos hz, cut_take _ (by rw [String.length_toList]; exact h)]
theorem drop_s {s : String} {p : Nat} (h : p ≤ s.length) (hz : s.length ≤ SZ) : oslc (.str s) (some (p : Int)) none = .ok (.str (String.ofList (s.toList.drop p))) := by
  show (if s.length ≤ SZ then Res.ok (D.str (String.ofList (cut s.toList (some (p : Int)) none))) else .stuck) = _
  rw [if_pos hz, cut_from _ (by rw [String.length_toList]; exact h)]
theorem ofl_len (l : List Char) : (String.ofList l).length = l.length := by
  rw [← String.length_toList, String.toList_ofList]
theorem set_b {P : Fl → Prop} {Q : D → Prop} {i : Nat} {j m : EM} {e : Env} {xs : List D} {n : Nat} (h : e[i]? = some (some (.lst xs))) (hm : Always Q (m e)) (hj : j e = .ok (nD n)) (hn : n < xs.length) (k : ∀ d, Q d → P (.next (e.set i (some (.lst (xs.set n d)))))) : Always P (setL i j m e) := by
  unfold setL
  rw [var_eq h, bind_ok]
  show Always P (m e >>= fun d => j e >>= fun k => match k with
    | .int z => match L2.ixN xs.length z with
      | some n => .ok (.next (e.set i (some (.lst (xs.set n d)))))
      | none => .stuck
    | _ => .stuck)
  refine hm.bind fun d hd => ?_
  rw [hj, bind_ok]
  show Always P (match L2.ixN xs.length (n : Int) with
      | some n => .ok (.next (e.set i (some (.lst (xs.set n d)))))
      | none => .stuck)
  rw [ixN_nat hn]
  exact k d hd
theorem bstr_b {n : Nat} (h : n ≤ 1000000) : bstr (nD n) = .ok (.str (nS n)) ∧ (nS n).length ≤ 7 := by
  constructor
  · have l : n.log2 < 1900 := by
      by_cases h0 : n = 0
      · subst h0
        decide
      · exact Nat.lt_of_lt_of_le ((Nat.log2_lt h0).mpr (show n < 2 ^ 20 by omega)) (by decide)
    show (if ((n : Nat) : Int).natAbs.log2 < 1900 then Res.ok (D.str (toString ((n : Nat) : Int))) else .stuck) = _
    rw [Int.natAbs_natCast, if_pos l]
    rfl
  · have l := TL.numL_len (n := n) (k := 7) (by decide) (by omega)
    rw [← nS_codes, List.length_map] at l
    exact l
theorem filt_all {p : Char → Bool} : ∀ {l : List Char}, (l.filter p).length ≤ l.length ∧ ((l.filter p).length = l.length → ∀ c ∈ l, p c = true)
  | [] => ⟨Nat.le_refl 0, fun _ c hc => nomatch hc⟩
  | x :: r => by
    obtain ⟨h1, h2⟩ := filt_all (p := p) (l := r)
    cases hx : p x with
    | true =>
      rw [List.filter_cons_of_pos hx]
      refine ⟨by simp; exact h1, fun h c hc => ?_⟩
      rcases List.mem_cons.mp hc with rfl | hc
      · exact hx
      · exact h2 (by simpa using h) c hc
    | false =>
      rw [List.filter_cons_of_neg (by simp [hx])]
      refine ⟨by simp; omega, fun h => ?_⟩
      simp at h
      omega
def sg (c : Char) : D := .str (String.ofList [c])
theorem comp_dig {e : Env} {w : D} (he : e = [some poolD, some w, none, none, none] ∨ ∃ a b, e = [some poolD, some w, some a, some b, none]) : ∀ cs : List Char, compL (compF [4] (gnm 4) (tst (bin oinS (var 4) (cst (.str "0123456789")))) (var 4) e) (cs.map sg) = .ok ((cs.filter fun c => decide (c ∈ D10.toList)).map sg)
  | [] => rfl
  | c :: r => by
    have ih := comp_dig he r
    have q := in_d10 c
    have h1 : compF [4] (gnm 4) (tst (bin oinS (var 4) (cst (.str "0123456789")))) (var 4) e (sg c) = .ok (if decide (c ∈ D10.toList) = true then some (sg c) else none) := by
      have key : ∀ a b : Option D, compF [4] (gnm 4) (tst (bin oinS (var 4) (cst (.str "0123456789")))) (var 4) [some poolD, some w, a, b, none] (sg c) = .ok (if decide (c ∈ D10.toList) = true then some (sg c) else none) := fun a b => by
        unfold compF
        rw [gnm_eq]
        show (tst (bin oinS (var 4) (cst (.str "0123456789"))) [some poolD, some w, a, b, some (sg c)] >>= fun b2 => if b2 = true then var 4 [some poolD, some w, a, b, some (sg c)] >>= fun y => Res.ok (some y) else Res.ok none) = _
        have t : tst (bin oinS (var 4) (cst (.str "0123456789"))) [some poolD, some w, a, b, some (sg c)] = .ok (decide (c ∈ D10.toList)) := by
          show ((oinS (sg c) (.str "0123456789")) >>= truthy) = _
          unfold sg
          rw [q]
          rfl
        rw [t, bind_ok]
        cases decide (c ∈ D10.toList) <;> rfl
      rcases he with rfl | ⟨a, b, rfl⟩
      · exact key none none
      · exact key (some a) (some b)
    show (compF _ _ _ _ _ (sg c) >>= fun o => compL _ (r.map sg) >>= fun ys => Res.ok (match o with | some y => y :: ys | none => ys)) = _
    rw [h1, bind_ok, ih, bind_ok]
    cases hd : decide (c ∈ D10.toList) with
    | true =>
      rw [List.filter_cons_of_pos (by simpa using hd)]
      rfl
    | false =>
      rw [List.filter_cons_of_neg (by simpa using hd)]
      rfl
def m1 : List String := ["0", "1", "2", "3", "4", "5", "6", "00", "01", "1000000", "-1", "+1", "x", "", "zero", "ones", "not", "and"]
def m2 : List String := ["shift", "count", "add", "row", "machine", "Not", "1.0", "1_0", "7", "9", "400", "100", "123", "1__0"]
def m3 : List String := ["0x1", "1e1", "--1", "0+1", "_1", "010"]
def lwC : TM := (andT (tst (bin oeq (var 3) (cst (.int 0)))) (andT (tst (bin Py.one (var 1) (cst (.str "")))) (andT (tst (bin olt (un blen (var 1)) (cst (.int 7)))) (tst (bin oeq (un blen (lcE (istr (var 1)) [4] (gnm 4) (tst (bin oinS (var 4) (cst (.str "0123456789")))) (var 4))) (un blen (var 1)))))))
theorem andT_f {a b : TM} {e : Env} (h : a e = .ok false) : andT a b e = .ok false := by
  rw [andT_eq, h, bind_ok]
  rfl
theorem andT_t {a b : TM} {e : Env} (h : a e = .ok true) : andT a b e = b e := by
  rw [andT_eq, h, bind_ok]
  rfl
theorem lwC_ok {w : String} {M : D} {t : Nat} (hz : w.length ≤ SZ) : ∃ c, lwC [some poolD, some (.str w), some M, some (nD t), none] = .ok c ∧ (c = true → 1 ≤ w.length ∧ w.length ≤ 6 ∧ ∀ x ∈ w.toList, x ∈ D10.toList) := by
  have e0 : oeq (nD t) (.int 0) = .ok (.bl (decide (t = 0))) := nat_eq t 0
  have c0 : tst (bin oeq (var 3) (cst (.int 0))) [some poolD, some (.str w), some M, some (nD t), none] = .ok (decide (t = 0)) := by
    generalize nD t = TT at *
    simp [var, e0]
  have c1 : tst (bin Py.one (var 1) (cst (.str ""))) [some poolD, some (.str w), some M, some (nD t), none] = .ok (!(w == "")) := rfl
  have bl := blen_str hz
  have lt : olt (nD w.length) (.int 7) = .ok (.bl (decide (w.length < 7))) := lt_n w.length 7
  have c2 : tst (bin olt (un blen (var 1)) (cst (.int 7))) [some poolD, some (.str w), some M, some (nD t), none] = .ok (decide (w.length < 7)) := by
    generalize nD w.length = L at *
    generalize D.str w = W at *
    simp [var, bl, lt]
  obtain ⟨F, hF⟩ : ∃ F, F = w.toList.filter fun c => decide (c ∈ D10.toList) := ⟨_, rfl⟩
  have lc : lcE (istr (var 1)) [4] (gnm 4) (tst (bin oinS (var 4) (cst (.str "0123456789")))) (var 4) [some poolD, some (.str w), some M, some (nD t), none] = .ok (.lst (F.map sg)) := by
    unfold lcE
    show (Res.ok (w.toList.map sg) >>= fun xs => noexc (compL _ xs) >>= fun ys => chk xs.length (.lst ys)) = _
    rw [bind_ok, comp_dig (.inr ⟨M, nD t, rfl⟩), hF]
    show chk (w.toList.map sg).length _ = _
    exact chk_ok (by rw [List.length_map, String.length_toList]; exact hz)
  have bf : blen (.lst (F.map sg)) = .ok (nD F.length) := by
    show Res.ok (D.int ((F.map sg).length : Int)) = _
    rw [List.length_map]
    rfl
  have e3 := nat_eq F.length w.length
  have c3 : tst (bin oeq (un blen (lcE (istr (var 1)) [4] (gnm 4) (tst (bin oinS (var 4) (cst (.str "0123456789")))) (var 4))) (un blen (var 1))) [some poolD, some (.str w), some M, some (nD t), none] = .ok (decide (F.length = w.length)) := by
    rw [tst_eq, bin_eq, un_eq, lc, bind_ok, bf, bind_ok]
    show ((blen (.str w) >>= fun y => oeq (nD F.length) y) >>= truthy) = _
    rw [bl, bind_ok, e3]
    rfl
  by_cases h0 : t = 0
  · rw [decide_eq_true h0] at c0
    cases hw : !(w == "") with
    | false =>
      rw [hw] at c1
      exact ⟨false, (andT_t c0).trans (andT_f c1), fun h => nomatch h⟩
    | true =>
      rw [hw] at c1
      have hw1 : 1 ≤ w.length := by
        by_cases h : w.length = 0
        · exfalso
          have : w = "" := by
            apply str_ext
            have : w.toList.length = 0 := by rw [String.length_toList]; exact h
            rw [List.length_eq_zero_iff.mp this]
            decide
          rw [this] at hw
          revert hw
          decide
        · omega
      by_cases h7 : w.length < 7
      · rw [decide_eq_true h7] at c2
        refine ⟨decide (F.length = w.length), (andT_t c0).trans ((andT_t c1).trans ((andT_t c2).trans c3)), fun h => ⟨hw1, by omega, fun x hx => ?_⟩⟩
        have hl := of_decide_eq_true h
        rw [hF, ← String.length_toList] at hl
        exact of_decide_eq_true (filt_all.2 hl x hx)
      · rw [decide_eq_false h7] at c2
        exact ⟨false, (andT_t c0).trans ((andT_t c1).trans (andT_f c2)), fun h => nomatch h⟩
  · rw [decide_eq_false h0] at c0
    exact ⟨false, andT_f c0, fun h => nomatch h⟩
theorem strs5 : ∀ i : Nat, i < 5 → ∃ s : String, oidx (.tup [.str "0", .str "+", .str "0_", .str "-", .str "+"]) (nD i) = .ok (.str s) ∧ s.length ≤ 2 := fun i hi => by
  have : i = 0 ∨ i = 1 ∨ i = 2 ∨ i = 3 ∨ i = 4 := by omega
  rcases this with rfl | rfl | rfl | rfl | rfl
  · exact ⟨"0", rfl, by decide⟩
  · exact ⟨"+", rfl, by decide⟩
  · exact ⟨"0_", rfl, by decide⟩
  · exact ⟨"-", rfl, by decide⟩
  · exact ⟨"+", rfl, by decide⟩
theorem word_ok {w : String} (hz : w.length ≤ 200000) : Always (StrP (w.length + 10)) (m_law_word [poolD, .str w]) := by
  have hz1 : w.length ≤ SZ := Nat.le_trans hz (by decide)
  unfold m_law_word
  rw [fn2]
  refine done_r ?_
  show Always _ (seq (asg (gnm 2) _) (seq (asg (gnm 2) _) (seq (asg (gnm 2) (bin oadd (var 2) (lstE (argC (un bstr (call m_law_pick (argC (var 0) (argC (cst (.int 140)) argN)))) (argC (un bstr (bin oadd (cst (.int 100)) (call m_law_pick (argC (var 0) (argC (cst (.int 900)) argN))))) (argC (cst (.str "0x1")) (argC (cst (.str "1e1")) (argC (cst (.str "--1")) (argC (cst (.str "0+1")) (argC (cst (.str "_1")) (argC (cst (.str "010")) argN))))))))))) (seq (asg (gnm 3) _) (seq (Py.ite lwC (ret _) skip) (seq (Py.ite _ (ret _) skip) (ret _)))))) [some poolD, some (.str w), none, none, none])
  refine asg_d (d := .lst (m1.map D.str)) rfl ?_
  refine asg_d (d := .lst ((m1 ++ m2).map D.str)) rfl ?_
  show Always _ (seq _ _ [some poolD, some (.str w), some (.lst ((m1 ++ m2).map D.str)), none, none])
  refine asg_a (Q := Words 10 100) ?_ ?_
  · rw [bin_eq, var_eq (d := .lst ((m1 ++ m2).map D.str)) rfl, bind_ok]
    refine Always.bind (Q := fun d => ∃ a b : String, d = .lst ((a :: b :: m3).map D.str) ∧ a.length ≤ 7 ∧ b.length ≤ 7) ?_ ?_
    · rw [lstE_eq]
      refine Always.bind (Q := fun ds => ∃ a b : String, ds = (a :: b :: m3).map D.str ∧ a.length ≤ 7 ∧ b.length ≤ 7) ?_ ?_
      · rw [argC_eq]
        refine Always.bind (Q := StrP 7) ?_ ?_
        · rw [un_eq]
          refine (pickc (Q := fun d => ∃ i : Nat, i < 140 ∧ d = nD i) 140 rfl rfl rfl (by omega) (by omega) fun i hi => ⟨i, hi, rfl⟩).bind ?_
          rintro _ ⟨i, hi, rfl⟩
          obtain ⟨q1, q2⟩ := bstr_b (n := i) (by omega)
          rw [q1]
          exact ⟨_, rfl, q2⟩
        · rintro _ ⟨a, rfl, ha⟩
          rw [argC_eq]
          refine Always.bind (Q := fun ds => ∃ b : String, ds = (b :: m3).map D.str ∧ b.length ≤ 7) ?_ ?_
          · refine Always.bind (Q := StrP 7) ?_ ?_
            · rw [un_eq, bin_eq]
              refine Always.bind (Q := fun d => ∃ i : Nat, i < 900 ∧ d = nD (100 + i)) ?_ ?_
              · show Always _ (Res.ok (Py.D.int 100) >>= fun x => call m_law_pick (argC (var 0) (argC (cst (.int 900)) argN)) [some poolD, some (.str w), some (.lst ((m1 ++ m2).map D.str)), none, none] >>= fun y => oadd x y)
                rw [bind_ok]
                refine (pickc (Q := fun d => ∃ i : Nat, i < 900 ∧ d = nD i) 900 rfl rfl rfl (by omega) (by omega) fun i hi => ⟨i, hi, rfl⟩).bind ?_
                rintro _ ⟨i, hi, rfl⟩
                have := nadd 100 i
                change oadd (.int 100) _ = _ at this
                rw [this]
                exact ⟨i, hi, rfl⟩
              · rintro _ ⟨i, hi, rfl⟩
                obtain ⟨q1, q2⟩ := bstr_b (n := 100 + i) (by omega)
                rw [q1]
                exact ⟨_, rfl, q2⟩
            · rintro _ ⟨b, rfl, hb⟩
              exact ⟨b, rfl, hb⟩
          · rintro _ ⟨b, rfl, hb⟩
            exact ⟨a, b, rfl, ha, hb⟩
      · rintro _ ⟨a, b, rfl, ha, hb⟩
        show Always _ (chk ((a :: b :: m3).map D.str).length (D.lst ((a :: b :: m3).map D.str)))
        rw [chk_ok (by rw [List.length_map]; show 8 ≤ SZ; decide)]
        exact ⟨a, b, rfl, ha, hb⟩
    · rintro _ ⟨a, b, rfl, ha, hb⟩
      rw [add_l (by show 32 + 8 ≤ SZ; decide)]
      refine ⟨(m1 ++ m2) ++ (a :: b :: m3), rfl, fun s hs => ?_, by show 0 < 32 + 8; decide, by show 32 + 8 ≤ 100; decide⟩
      have k1 : ∀ s ∈ m1 ++ m2, s.length ≤ 10 := by decide
      have k3 : ∀ s ∈ m3, s.length ≤ 10 := by decide
      rcases List.mem_append.mp hs with hs | hs
      · exact k1 s hs
      · rcases List.mem_cons.mp hs with rfl | hs
        · omega
        · rcases List.mem_cons.mp hs with rfl | hs
          · omega
          · exact k3 s hs
  rintro _ ⟨M, rfl, hM, m0, mN⟩
  refine asg_a (Q := fun d => ∃ i : Nat, d = nD i) (pickc 3 rfl rfl rfl (by omega) (by omega) fun i hi => ⟨i, rfl⟩) ?_
  rintro _ ⟨t, rfl⟩
  show Always _ (seq (Py.ite lwC (ret _) skip) _ [some poolD, some (.str w), some (.lst (M.map D.str)), some (nD t), none])
  obtain ⟨c, hc, hc2⟩ := lwC_ok (w := w) (M := .lst (M.map D.str)) (t := t) hz1
  cases c with
  | true =>
    obtain ⟨w1, w6, wd⟩ := hc2 rfl
    refine ite_ret hc (ret_r ?_)
    have it := intx_d w1 w6 wd
    have dl := dgV_lt w.toList.length w.toList rfl fun c hc => d10 (wd c hc)
    have q6 := Nat.pow_le_pow_right (n := 10) (by decide) (show w.toList.length ≤ 6 by rw [String.length_toList]; exact w6)
    have dl6 : dgV w.toList < 1000000 := Nat.lt_of_lt_of_le dl q6
    obtain ⟨q1, q2⟩ := bstr_b (n := dgV w.toList + 1) (by omega)
    have ad := nadd (dgV w.toList) 1
    change oadd _ (.int 1) = _ at ad
    have e : un bstr (bin oadd (un bintx (var 1)) (cst (.int 1))) [some poolD, some (.str w), some (.lst (M.map D.str)), some (nD t), none] = .ok (.str (nS (dgV w.toList + 1))) := by
      generalize nD (dgV w.toList + 1) = V1 at *
      generalize nD (dgV w.toList) = V at *
      generalize D.str w = W at *
      simp [var, it, ad, q1]
    show Always _ (un bstr (bin oadd (un bintx (var 1)) (cst (.int 1))) _)
    rw [e]
    exact ⟨_, rfl, by omega⟩
  | false =>
    refine chk_p1 hc ?_
    have e1 : oeq (nD t) (.int 1) = .ok (.bl (decide (t = 1))) := nat_eq t 1
    have c1 : tst (bin oeq (var 3) (cst (.int 1))) [some poolD, some (.str w), some (.lst (M.map D.str)), some (nD t), none] = .ok (decide (t = 1)) := by
      generalize nD t = TT at *
      simp [var, e1]
    by_cases h1 : t = 1
    · rw [decide_eq_true h1] at c1
      refine ite_ret c1 (ret_r ?_)
      rw [bin_eq]
      refine Always.bind (Q := StrP 2) ?_ ?_
      · rw [bin_eq]
        show Always _ (Res.ok (Py.D.tup [.str "0", .str "+", .str "0_", .str "-", .str "+"]) >>= fun x => call m_law_pick (argC (var 0) (argC (cst (.int 5)) argN)) [some poolD, some (.str w), some (.lst (M.map D.str)), some (nD t), none] >>= fun y => oidx x y)
        rw [bind_ok]
        refine (pickc (Q := fun d => ∃ i : Nat, i < 5 ∧ d = nD i) 5 rfl rfl rfl (by omega) (by omega) fun i hi => ⟨i, hi, rfl⟩).bind ?_
        rintro _ ⟨i, hi, rfl⟩
        obtain ⟨s, q, hs⟩ := strs5 i hi
        rw [q]
        exact ⟨s, rfl, hs⟩
      · rintro _ ⟨s, rfl, hs⟩
        rw [var_eq (d := .str w) rfl, bind_ok, app_str (Nat.le_trans (show _ ≤ 200002 by omega) (by decide))]
        exact ⟨_, rfl, by rw [String.length_append]; omega⟩
    · rw [decide_eq_false h1] at c1
      refine chk_p1 c1 (ret_r ?_)
      rw [bin_eq, var_eq (d := .lst (M.map D.str)) rfl, bind_ok]
      have bl : un blen (var 2) [some poolD, some (.str w), some (.lst (M.map D.str)), some (nD t), none] = .ok (nD M.length) := by
        rw [un_eq, var_eq (d := .lst (M.map D.str)) rfl, bind_ok]
        exact lenN M _
      refine (pickc (Q := fun d => ∃ i : Nat, i < M.length ∧ d = nD i) M.length rfl bl rfl m0 (by omega) fun i hi => ⟨i, hi, rfl⟩).bind ?_
      rintro _ ⟨i, hi, rfl⟩
      rw [at_l hi]
      exact ⟨_, rfl, by have := hM _ (List.getElem_mem hi); omega⟩
end Py.U
namespace Py.U
open PySem
theorem join_P {c : Char} {cs : String} (hc : cs.toList = [c]) {ls : List String} {B : Nat} (hB : totL ls ≤ B) (hz : B ≤ 1000000) : ∃ s : String, joinL9 cs (ls.map D.str) = .ok (.str s) ∧ s.length ≤ B := by
  refine ⟨J c ls, join_tot hc (Nat.le_trans (show _ ≤ 1000000 by omega) (by decide)), ?_⟩
  have := (J_tot c ls).1
  omega
theorem eqk {e : Env} {i t : Nat} (k : Nat) (h : e[i]? = some (some (nD t))) : tst (bin oeq (var i) (cst (nD k))) e = .ok (decide (t = k)) := by
  rw [tst_eq, bin_eq, var_eq h, bind_ok, cst_eq, bind_ok, nat_eq]
  rfl
theorem chk1 (d : D) : chk 1 d = .ok d := chk_ok (by decide)
/-- what the three kinds of change make of the lines -/
theorem t_drop (ls : List String) (p : Nat) : totL (ls.take p ++ ls.drop (p + 1)) ≤ totL ls := by
  have h1 := tot_td ls p
  have h2 := tot_td (ls.drop p) 1
  rw [List.drop_drop] at h2
  rw [tot_app]
  have : p + 1 = p + 1 := rfl
  omega
theorem t_put (ls : List String) (p : Nat) (v : String) : totL ((ls.take p ++ [v]) ++ ls.drop p) = totL ls + (v.length + 1) := by
  have h1 := tot_td ls p
  rw [tot_app, tot_app]
  have : totL [v] = v.length + 1 := rfl
  omega
section
variable {ws : List String} {p : Nat} (hp : p < ws.length) (hz : totL ws ≤ 200000)
include hp hz
theorem drop_e {e : Env} {i j : Nat} (hi : e[i]? = some (some (.lst (ws.map D.str)))) (hj : e[j]? = some (some (nD p))) : bin oadd (slc (var i) none (some (var j))) (slc (var i) (some (bin oadd (var j) (cst (.int 1)))) none) e = .ok (.lst ((ws.take p ++ ws.drop (p + 1)).map D.str)) := by
  have l := tot_len ws
  have a1 := nadd p 1
  change oadd _ (.int 1) = _ at a1
  have s1 : slc (var i) none (some (var j)) e = .ok (.lst ((ws.take p).map D.str)) := by
    rw [slc_eq, var_eq hi, bind_ok, bnd_none, bnd_some, var_eq hj]
    exact take_l (by omega)
  have s2 : slc (var i) (some (bin oadd (var j) (cst (.int 1)))) none e = .ok (.lst ((ws.drop (p + 1)).map D.str)) := by
    have b : bin oadd (var j) (cst (.int 1)) e = .ok (nD (p + 1)) := by
      rw [bin_eq, var_eq hj, bind_ok, cst_eq, bind_ok]
      exact a1
    rw [slc_eq, var_eq hi, bind_ok, bnd_none, bnd_some, b]
    exact drop_l (by omega)
  rw [bin_eq, s1, bind_ok, s2, bind_ok, add_l]
  rw [List.length_take, List.length_drop]
  exact Nat.le_trans (show _ ≤ 400000 by omega) (by decide)
theorem put_e {e : Env} {i j : Nat} {m : EM} {v : String} (hi : e[i]? = some (some (.lst (ws.map D.str)))) (hj : e[j]? = some (some (nD p))) (hm : m e = .ok (.str v)) : bin oadd (bin oadd (slc (var i) none (some (var j))) (lstE (argC m argN))) (slc (var i) (some (var j)) none) e = .ok (.lst (((ws.take p ++ [v]) ++ ws.drop p).map D.str)) := by
  have l := tot_len ws
  have s1 : slc (var i) none (some (var j)) e = .ok (.lst ((ws.take p).map D.str)) := by
    rw [slc_eq, var_eq hi, bind_ok, bnd_none, bnd_some, var_eq hj]
    exact take_l (by omega)
  have s2 : slc (var i) (some (var j)) none e = .ok (.lst ((ws.drop p).map D.str)) := by
    rw [slc_eq, var_eq hi, bind_ok, bnd_none, bnd_some, var_eq hj]
    exact drop_l (by omega)
  have s3 : lstE (argC m argN) e = .ok (.lst ([v].map D.str)) := by
    rw [lstE_eq, argC_eq, hm]
    exact chk1 _
  rw [bin_eq, bin_eq, s1, bind_ok, s3, bind_ok, add_l (by
    rw [List.length_take]
    exact Nat.le_trans (show _ ≤ 400000 by simp; omega) (by decide)), bind_ok, s2, bind_ok, add_l]
  rw [List.length_append, List.length_take, List.length_drop]
  exact Nat.le_trans (show _ ≤ 400000 by simp; omega) (by decide)
end
theorem line_ok2 {l : String} (hz : l.length ≤ 90000) : Always (StrP (2 * (l.length + 1) + 12)) (m_law_line [poolD, .str l]) := by
  have sp := split_L (a := l) spc (by decide) (Nat.le_trans (show _ ≤ 90002 by omega) (by decide))
  have tl := tot_spL ' ' l
  have l0 : 0 < (spL ' ' l).length := List.length_pos_iff.mpr (spL_ne ' ' l)
  obtain ⟨ws, hws⟩ : ∃ ws, ws = spL ' ' l := ⟨_, rfl⟩
  rw [← hws] at sp tl l0
  have ln := tot_len ws
  have fin : ∀ (vs : List String) (o3 o4 : Option D), totL vs ≤ 2 * (l.length + 1) + 12 → Always (RetP (StrP (2 * (l.length + 1) + 12))) (ret (mtx ojoin (cst (.str " ")) (var 2)) [some poolD, some (.str l), some (.lst (vs.map D.str)), o3, o4]) := fun vs o3 o4 hv => by
    obtain ⟨s, q, hs⟩ := join_P spc hv (by omega)
    refine ret_1 (d := .str s) ?_ ⟨s, rfl, hs⟩
    rw [mtx_eq]
    exact q
  unfold m_law_line
  rw [fn2]
  refine done_r ?_
  show Always _ (seq (asg (gnm 2) _) (seq (asg (gnm 3) _) (seq (asg (gnm 4) _) (seq (Py.ite _ (asg (gnm 2) _) (Py.ite _ (asg (gnm 2) _) (setL 2 (var 3) _))) (ret _)))) [some poolD, some (.str l), none, none, none])
  refine asg_d (d := .lst (ws.map D.str)) ?_ ?_
  · rw [mtx_eq]
    exact sp
  refine asg_a (Q := fun d => ∃ p : Nat, p < ws.length ∧ d = nD p) (pickc ws.length rfl (d := nD ws.length) (lenN ws _) rfl l0 (by omega) fun i hi => ⟨i, hi, rfl⟩) ?_
  rintro _ ⟨p, hp, rfl⟩
  refine asg_a (Q := fun d => ∃ t : Nat, d = nD t) (pickc 5 rfl rfl rfl (by omega) (by omega) fun i hi => ⟨i, rfl⟩) ?_
  rintro _ ⟨t, rfl⟩
  show Always _ (seq (Py.ite _ _ _) _ [some poolD, some (.str l), some (.lst (ws.map D.str)), some (nD p), some (nD t)])
  refine seq_a (I := fun e => ∃ vs : List String, totL vs ≤ 2 * (l.length + 1) + 12 ∧ e = [some poolD, some (.str l), some (.lst (vs.map D.str)), some (nD p), some (nD t)]) ?_ ?_
  · refine ite_a (c := decide (t = 0)) (eqk 0 rfl) (fun _ => ?_) fun _ => ite_a (c := decide (t = 1)) (eqk 1 rfl) (fun _ => ?_) fun _ => ?_
    · refine asg_1 (Q := fun d => d = .lst ((ws.take p ++ ws.drop (p + 1)).map D.str)) (by rw [drop_e hp (by omega) rfl rfl]; rfl) ?_
      rintro _ rfl
      exact ⟨_, rfl, _, by have := t_drop ws p; omega, rfl⟩
    · refine asg_1 (Q := fun d => d = .lst (((ws.take p ++ [ws[p]]) ++ ws.drop p).map D.str)) (by
        rw [put_e hp (by omega) rfl rfl (v := ws[p]) (at_l hp)]
        rfl) ?_
      rintro _ rfl
      refine ⟨_, rfl, _, ?_, rfl⟩
      have a := t_put ws p ws[p]
      have b := tot_mem (List.getElem_mem hp)
      omega
    · have hw := tot_mem (List.getElem_mem hp)
      refine set_b (Q := StrP (ws[p].length + 10)) (xs := ws.map D.str) (n := p) rfl ?_ rfl (by simpa using hp) ?_
      · refine Always.bind (Q := fun ds => ds = [poolD, .str ws[p]]) ?_ ?_
        · have : bin oidx (var 2) (var 3) [some poolD, some (.str l), some (.lst (ws.map D.str)), some (nD p), some (nD t)] = .ok (.str ws[p]) := at_l hp
          rw [argC_eq, var_eq (d := poolD) rfl, bind_ok, argC_eq, this]
          rfl
        · rintro _ rfl
          exact word_ok (by omega)
      · rintro _ ⟨s, rfl, hs⟩
        refine ⟨_, rfl, ws.set p s, ?_, by rw [List.map_set]; rfl⟩
        have := tot_set (v := s) hp
        omega
  rintro _ ⟨vs, hv, rfl⟩
  exact fin vs _ _ hv
theorem sgn6 : ∀ i : Nat, i < 6 → ∃ s : String, oidx (.tup [.str " ", .str "\n", .str "\t", .str ";", .str "0", .str "a"]) (nD i) = .ok (.str s) ∧ s.length ≤ 1 := fun i hi => by
  have : i = 0 ∨ i = 1 ∨ i = 2 ∨ i = 3 ∨ i = 4 ∨ i = 5 := by omega
  rcases this with rfl | rfl | rfl | rfl | rfl | rfl
  · exact ⟨" ", rfl, by decide⟩
  · exact ⟨"\n", rfl, by decide⟩
  · exact ⟨"\t", rfl, by decide⟩
  · exact ⟨";", rfl, by decide⟩
  · exact ⟨"0", rfl, by decide⟩
  · exact ⟨"a", rfl, by decide⟩
def m7 (v : String) : List String := [v, "", "zero", "not 0", "0 0 0 0", "row 1 0 0", " "]
theorem m7_at (v : String) : ∀ i : Nat, i < 7 → ∃ s : String, oidx (.lst ((m7 v).map D.str)) (nD i) = .ok (.str s) ∧ s.length ≤ v.length + 10 := fun i hi => by
  refine ⟨_, at_l (show i < (m7 v).length from hi), ?_⟩
  have : i = 0 ∨ i = 1 ∨ i = 2 ∨ i = 3 ∨ i = 4 ∨ i = 5 ∨ i = 6 := by omega
  have k : ∀ s ∈ (["", "zero", "not 0", "0 0 0 0", "row 1 0 0", " "] : List String), s.length ≤ 10 := by decide
  rcases this with rfl | rfl | rfl | rfl | rfl | rfl | rfl
  · show v.length ≤ _
    omega
  · exact Nat.le_trans (k "" (by simp)) (by omega)
  · exact Nat.le_trans (k "zero" (by simp)) (by omega)
  · exact Nat.le_trans (k "not 0" (by simp)) (by omega)
  · exact Nat.le_trans (k "0 0 0 0" (by simp)) (by omega)
  · exact Nat.le_trans (k "row 1 0 0" (by simp)) (by omega)
  · exact Nat.le_trans (k " " (by simp)) (by omega)
def chL : SM := (Py.ite (tst (bin oeq (var 2) (cst (.int 3)))) (seq (asg (gnm 6) (call m_law_pick (argC (var 0) (argC (un blen (var 4)) argN))))
  (seq (asg (gnm 7) (bin oidx (var 4) (var 5)))
  (seq (setL 4 (var 5) (bin oidx (var 4) (var 6)))
  (setL 4 (var 6) (var 7))))) (Py.ite (tst (bin oeq (var 2) (cst (.int 4)))) (asg (gnm 4) (bin oadd (slc (var 4) none (some (var 5))) (slc (var 4) (some (bin oadd (var 5) (cst (.int 1)))) none))) (Py.ite (tst (bin oeq (var 2) (cst (.int 5)))) (seq (asg (gnm 8) (lstE (argC (bin oidx (var 4) (var 5)) (argC (cst (.str "")) (argC (cst (.str "zero")) (argC (cst (.str "not 0")) (argC (cst (.str "0 0 0 0")) (argC (cst (.str "row 1 0 0")) (argC (cst (.str " ")) argN)))))))))
  (asg (gnm 4) (bin oadd (bin oadd (slc (var 4) none (some (var 5))) (lstE (argC (bin oidx (var 8) (call m_law_pick (argC (var 0) (argC (cst (.int 7)) argN)))) argN))) (slc (var 4) (some (var 5)) none)))) (setL 4 (var 5) (call m_law_line (argC (var 0) (argC (bin oidx (var 4) (var 5)) argN)))))))
section
variable {t : String} {tn pl : Nat} {ls : List String} {p B : Nat} (hp : p < ls.length) (hz : totL ls ≤ 90000) (hB : 2 * totL ls + 20 ≤ B)
include hp hz hB
theorem chL_ok : Always (NX fun e => ∃ vs o6 o7 o8, totL vs ≤ B ∧ e = [some poolD, some (.str t), some (nD tn), some (nD pl), some (.lst (vs.map D.str)), some (nD p), o6, o7, o8]) (chL [some poolD, some (.str t), some (nD tn), some (nD pl), some (.lst (ls.map D.str)), some (nD p), none, none, none]) := by
  have ln := tot_len ls
  have hw := tot_mem (List.getElem_mem hp)
  unfold chL
  refine ite_a (c := decide (tn = 3)) (eqk 3 rfl) (fun _ => ?_) fun _ => ite_a (c := decide (tn = 4)) (eqk 4 rfl) (fun _ => ?_) fun _ => ite_a (c := decide (tn = 5)) (eqk 5 rfl) (fun _ => ?_) fun _ => ?_
  · refine asg_a (Q := fun d => ∃ q : Nat, q < ls.length ∧ d = nD q) (pickc ls.length rfl (d := nD ls.length) (lenN ls _) rfl (by omega) (by omega) fun i hi => ⟨i, hi, rfl⟩) ?_
    rintro _ ⟨q, hq, rfl⟩
    refine asg_d (d := .str ls[p]) (at_l hp) ?_
    refine seq_a (I := fun e => e = [some poolD, some (.str t), some (nD tn), some (nD pl), some (.lst ((ls.set p ls[q]).map D.str)), some (nD p), some (nD q), some (.str ls[p]), none]) ?_ ?_
    · refine set_b (Q := fun d => d = .str ls[q]) (xs := ls.map D.str) (n := p) rfl ?_ rfl (by simpa using hp) ?_
      · have : bin oidx (var 4) (var 6) [some poolD, some (.str t), some (nD tn), some (nD pl), some (.lst (ls.map D.str)), some (nD p), some (nD q), some (.str ls[p]), none] = .ok (.str ls[q]) := at_l hq
        show Always _ (bin oidx (var 4) (var 6) [some poolD, some (.str t), some (nD tn), some (nD pl), some (.lst (ls.map D.str)), some (nD p), some (nD q), some (.str ls[p]), none])
        rw [this]
        rfl
      · rintro _ rfl
        exact ⟨_, rfl, by rw [List.map_set]; rfl⟩
    rintro _ rfl
    have hq2 : q < (ls.set p ls[q]).length := by simpa using hq
    refine set_b (Q := fun d => d = .str ls[p]) (xs := (ls.set p ls[q]).map D.str) (n := q) rfl rfl rfl (by simpa using hq) ?_
    rintro _ rfl
    refine ⟨_, rfl, (ls.set p ls[q]).set q ls[p], _, _, _, ?_, by simp only [List.map_set]; rfl⟩
    have s1 := tot_set (v := ls[q]) hp
    have s2 := tot_set (v := ls[p]) hq2
    have e : (ls.set p ls[q])[q]'hq2 = ls[q] := by
      rw [List.getElem_set]
      split
      · rfl
      · rfl
    rw [e] at s2
    omega
  · refine asg_1 (Q := fun d => d = .lst ((ls.take p ++ ls.drop (p + 1)).map D.str)) (by rw [drop_e hp (by omega) rfl rfl]; rfl) ?_
    rintro _ rfl
    exact ⟨_, rfl, _, _, _, _, by have := t_drop ls p; omega, rfl⟩
  · refine asg_d (d := .lst ((m7 ls[p]).map D.str)) ?_ ?_
    · have : bin oidx (var 4) (var 5) [some poolD, some (.str t), some (nD tn), some (nD pl), some (.lst (ls.map D.str)), some (nD p), none, none, none] = .ok (.str ls[p]) := at_l hp
      rw [lstE_eq, argC_eq, this]
      exact chk_ok (by show 7 ≤ SZ; decide)
    show Always _ (asg (gnm 4) _ [some poolD, some (.str t), some (nD tn), some (nD pl), some (.lst (ls.map D.str)), some (nD p), none, none, some (.lst ((m7 ls[p]).map D.str))])
    refine asg_1 (Q := fun d => ∃ v : String, d = .lst (((ls.take p ++ [v]) ++ ls.drop p).map D.str) ∧ v.length ≤ ls[p].length + 10) ?_ ?_
    · have s1 : slc (var 4) none (some (var 5)) [some poolD, some (.str t), some (nD tn), some (nD pl), some (.lst (ls.map D.str)), some (nD p), none, none, some (.lst ((m7 ls[p]).map D.str))] = .ok (.lst ((ls.take p).map D.str)) := by
        rw [slc_eq, var_eq (d := .lst (ls.map D.str)) rfl, bind_ok, bnd_none, bnd_some, var_eq (d := nD p) rfl]
        exact take_l (by omega)
      have s2 : slc (var 4) (some (var 5)) none [some poolD, some (.str t), some (nD tn), some (nD pl), some (.lst (ls.map D.str)), some (nD p), none, none, some (.lst ((m7 ls[p]).map D.str))] = .ok (.lst ((ls.drop p).map D.str)) := by
        rw [slc_eq, var_eq (d := .lst (ls.map D.str)) rfl, bind_ok, bnd_none, bnd_some, var_eq (d := nD p) rfl]
        exact drop_l (by omega)
      rw [bin_eq, bin_eq, s1, bind_ok]
      refine Always.bind (Q := fun d => ∃ v : String, d = .lst ((ls.take p ++ [v]).map D.str) ∧ v.length ≤ ls[p].length + 10) ?_ ?_
      · refine Always.bind (Q := fun d => ∃ v : String, d = .lst ([v].map D.str) ∧ v.length ≤ ls[p].length + 10) ?_ ?_
        · rw [lstE_eq, argC_eq]
          refine Always.bind (Q := fun ds => ∃ v : String, ds = [D.str v] ∧ v.length ≤ ls[p].length + 10) ?_ ?_
          · refine Always.bind (Q := StrP (ls[p].length + 10)) ?_ ?_
            · rw [bin_eq, var_eq (d := .lst ((m7 ls[p]).map D.str)) rfl, bind_ok]
              refine (pickc (Q := fun d => ∃ i : Nat, i < 7 ∧ d = nD i) 7 rfl rfl rfl (by omega) (by omega) fun i hi => ⟨i, hi, rfl⟩).bind ?_
              rintro _ ⟨i, hi, rfl⟩
              obtain ⟨s, q, hs⟩ := m7_at ls[p] i hi
              rw [q]
              exact ⟨s, rfl, hs⟩
            · rintro _ ⟨s, rfl, hs⟩
              exact ⟨s, rfl, hs⟩
          · rintro _ ⟨v, rfl, hv⟩
            show Always _ (chk 1 (.lst [D.str v]))
            rw [chk1]
            exact ⟨v, rfl, hv⟩
        · rintro _ ⟨v, rfl, hv⟩
          rw [add_l (by
            rw [List.length_take]
            exact Nat.le_trans (show _ ≤ 400000 by simp; omega) (by decide))]
          exact ⟨v, rfl, hv⟩
      · rintro _ ⟨v, rfl, hv⟩
        rw [s2, bind_ok, add_l (by
          rw [List.length_append, List.length_take, List.length_drop]
          exact Nat.le_trans (show _ ≤ 400000 by simp; omega) (by decide))]
        exact ⟨v, rfl, hv⟩
    · rintro _ ⟨v, rfl, hv⟩
      exact ⟨_, rfl, _, _, _, _, by have := t_put ls p v; omega, rfl⟩
  · refine set_b (Q := StrP (2 * (ls[p].length + 1) + 12)) (xs := ls.map D.str) (n := p) rfl ?_ rfl (by simpa using hp) ?_
    · refine Always.bind (Q := fun ds => ds = [poolD, .str ls[p]]) ?_ ?_
      · have : bin oidx (var 4) (var 5) [some poolD, some (.str t), some (nD tn), some (nD pl), some (.lst (ls.map D.str)), some (nD p), none, none, none] = .ok (.str ls[p]) := at_l hp
        rw [argC_eq, var_eq (d := poolD) rfl, bind_ok, argC_eq, this]
        rfl
      · rintro _ rfl
        exact line_ok2 (by omega)
    · rintro _ ⟨s, rfl, hs⟩
      refine ⟨_, rfl, ls.set p s, _, _, _, ?_, by rw [List.map_set]; rfl⟩
      have := tot_set (v := s) hp
      omega
end
theorem changed_ok {t : String} (hz : t.length ≤ 60000) : Always (StrP (2 * (t.length + 1) + 20)) (m_law_changed [poolD, .str t]) := by
  have z1 : t.length ≤ SZ := Nat.le_trans (show _ ≤ 60000 by omega) (by decide)
  have sp := split_L (a := t) nwl (by decide) (Nat.le_trans (show _ ≤ 60002 by omega) (by decide))
  have tl := tot_spL '\n' t
  have l0 : 0 < (spL '\n' t).length := List.length_pos_iff.mpr (spL_ne '\n' t)
  obtain ⟨ls, hls⟩ : ∃ ls, ls = spL '\n' t := ⟨_, rfl⟩
  rw [← hls] at sp tl l0
  have ln := tot_len ls
  unfold m_law_changed
  rw [fn2]
  refine done_r ?_
  show Always _ (seq (asg (gnm 2) _) (seq (asg (gnm 3) _) (seq (Py.ite _ (ret _) skip) (seq (Py.ite _ (ret _) skip) (seq (Py.ite _ (ret _) skip) (seq (asg (gnm 4) _) (seq (asg (gnm 5) _) (seq chL (ret (mtx ojoin (cst (.str "\n")) (var 4)))))))))) [some poolD, some (.str t), none, none, none, none, none, none, none])
  refine asg_a (Q := fun d => ∃ i : Nat, d = nD i) (pickc 8 rfl rfl rfl (by omega) (by omega) fun i hi => ⟨i, rfl⟩) ?_
  rintro _ ⟨tn, rfl⟩
  have bl : bin oadd (un blen (var 1)) (cst (.int 1)) [some poolD, some (.str t), some (nD tn), none, none, none, none, none, none] = .ok (nD (t.length + 1)) := by
    have b := blen_str z1
    have a := nadd t.length 1
    change oadd _ (.int 1) = _ at a
    generalize nD (t.length + 1) = L1 at *
    generalize nD t.length = L0 at *
    generalize D.str t = T at *
    simp [var, b, a]
  refine asg_a (Q := fun d => ∃ i : Nat, i ≤ t.length ∧ d = nD i) (pickc (t.length + 1) rfl bl rfl (by omega) (by omega) fun i hi => ⟨i, by omega, rfl⟩) ?_
  rintro _ ⟨pl, hpl, rfl⟩
  show Always _ (seq (Py.ite _ (ret _) skip) _ [some poolD, some (.str t), some (nD tn), some (nD pl), none, none, none, none, none])
  have s1 : slc (var 1) none (some (var 3)) [some poolD, some (.str t), some (nD tn), some (nD pl), none, none, none, none, none] = .ok (.str (String.ofList (t.toList.take pl))) := by
    rw [slc_eq, var_eq (d := .str t) rfl, bind_ok, bnd_none, bnd_some, var_eq (d := nD pl) rfl]
    exact take_s hpl z1
  have l1 : (String.ofList (t.toList.take pl)).length ≤ pl := by
    rw [ofl_len, List.length_take]
    omega
  have hq := eqk (e := [some poolD, some (.str t), some (nD tn), some (nD pl), none, none, none, none, none]) (i := 2) (t := tn)
  by_cases h0 : tn = 0
  · refine ite_ret ((hq 0 rfl).trans (by rw [decide_eq_true h0])) (ret_r ?_)
    have s2 : slc (var 1) (some (var 3)) none [some poolD, some (.str t), some (nD tn), some (nD pl), none, none, none, none, none] = .ok (.str (String.ofList (t.toList.drop pl))) := by
      rw [slc_eq, var_eq (d := .str t) rfl, bind_ok, bnd_none, bnd_some, var_eq (d := nD pl) rfl]
      exact drop_s hpl z1
    have l2 : (String.ofList (t.toList.drop pl)).length ≤ t.length := by
      rw [ofl_len, List.length_drop, String.length_toList]
      omega
    rw [bin_eq, bin_eq, s1, bind_ok]
    refine Always.bind (Q := StrP (pl + 1)) ?_ ?_
    · refine Always.bind (Q := StrP 1) ?_ ?_
      · rw [bin_eq]
        show Always _ (Res.ok (Py.D.tup [.str " ", .str "\n", .str "\t", .str ";", .str "0", .str "a"]) >>= fun x => call m_law_pick (argC (var 0) (argC (cst (.int 6)) argN)) [some poolD, some (.str t), some (nD tn), some (nD pl), none, none, none, none, none] >>= fun y => oidx x y)
        rw [bind_ok]
        refine (pickc (Q := fun d => ∃ i : Nat, i < 6 ∧ d = nD i) 6 rfl rfl rfl (by omega) (by omega) fun i hi => ⟨i, hi, rfl⟩).bind ?_
        rintro _ ⟨i, hi, rfl⟩
        obtain ⟨s, q, hs⟩ := sgn6 i hi
        rw [q]
        exact ⟨s, rfl, hs⟩
      · rintro _ ⟨s, rfl, hs⟩
        rw [app_str (Nat.le_trans (show _ ≤ 60010 by omega) (by decide))]
        exact ⟨_, rfl, by rw [String.length_append]; omega⟩
    · rintro _ ⟨s, rfl, hs⟩
      rw [s2, bind_ok, app_str (Nat.le_trans (show _ ≤ 130000 by omega) (by decide))]
      exact ⟨_, rfl, by rw [String.length_append]; omega⟩
  refine chk_p1 ((hq 0 rfl).trans (by rw [decide_eq_false h0])) ?_
  by_cases h1 : tn = 1
  · refine ite_ret ((hq 1 rfl).trans (by rw [decide_eq_true h1])) (ret_r ?_)
    have a1 := nadd pl 1
    change oadd _ (.int 1) = _ at a1
    have b1 : bin oadd (var 3) (cst (.int 1)) [some poolD, some (.str t), some (nD tn), some (nD pl), none, none, none, none, none] = .ok (nD (pl + 1)) := a1
    by_cases hl : pl + 1 ≤ t.length
    · have s2 : slc (var 1) (some (bin oadd (var 3) (cst (.int 1)))) none [some poolD, some (.str t), some (nD tn), some (nD pl), none, none, none, none, none] = .ok (.str (String.ofList (t.toList.drop (pl + 1)))) := by
        rw [slc_eq, var_eq (d := .str t) rfl, bind_ok, bnd_none, bnd_some, b1]
        exact drop_s hl z1
      have l2 : (String.ofList (t.toList.drop (pl + 1))).length ≤ t.length := by
        rw [ofl_len, List.length_drop, String.length_toList]
        omega
      rw [bin_eq, s1, bind_ok, s2, bind_ok, app_str (Nat.le_trans (show _ ≤ 130000 by omega) (by decide))]
      exact ⟨_, rfl, by rw [String.length_append]; omega⟩
    · have s2 : slc (var 1) (some (bin oadd (var 3) (cst (.int 1)))) none [some poolD, some (.str t), some (nD tn), some (nD pl), none, none, none, none, none] = .ok (.str (String.ofList (cut t.toList (some ((pl + 1 : Nat) : Int)) none))) := by
        rw [slc_eq, var_eq (d := .str t) rfl, bind_ok, bnd_none, bnd_some, b1]
        exact if_pos z1
      have l2 : (String.ofList (cut t.toList (some ((pl + 1 : Nat) : Int)) none)).length ≤ t.length := by
        rw [ofl_len]
        unfold cut
        rw [List.length_take, List.length_drop, String.length_toList]
        omega
      rw [bin_eq, s1, bind_ok, s2, bind_ok, app_str (Nat.le_trans (show _ ≤ 130000 by omega) (by decide))]
      exact ⟨_, rfl, by rw [String.length_append]; omega⟩
  refine chk_p1 ((hq 1 rfl).trans (by rw [decide_eq_false h1])) ?_
  by_cases h2 : tn = 2
  · refine ite_ret ((hq 2 rfl).trans (by rw [decide_eq_true h2])) (ret_r ?_)
    rw [s1]
    exact ⟨_, rfl, by omega⟩
  refine chk_p1 ((hq 2 rfl).trans (by rw [decide_eq_false h2])) ?_
  refine asg_d (d := .lst (ls.map D.str)) ?_ ?_
  · rw [mtx_eq]
    exact sp
  refine asg_a (Q := fun d => ∃ p : Nat, p < ls.length ∧ d = nD p) (pickc ls.length rfl (d := nD ls.length) (lenN ls _) rfl l0 (by omega) fun i hi => ⟨i, hi, rfl⟩) ?_
  rintro _ ⟨p, hp, rfl⟩
  refine seq_a (chL_ok (t := t) (tn := tn) (pl := pl) (B := 2 * (t.length + 1) + 20) hp (by omega) (by omega)) ?_
  rintro _ ⟨vs, o6, o7, o8, hv, rfl⟩
  obtain ⟨s, q, hs⟩ := join_P nwl hv (by omega)
  refine ret_1 (d := .str s) ?_ ⟨s, rfl, hs⟩
  rw [mtx_eq]
  exact q
end Py.U
namespace Py.U
open PySem
/-! ### lines drawn -/
theorem app_a {P : Fl → Prop} {Q : D → Prop} {i : Nat} {m : EM} {e : Env} {xs : List D} (h : e[i]? = some (some (.lst xs))) (hz : xs.length < SZ) (hm : Always Q (m e)) (k : ∀ d, Q d → P (.next (e.set i (some (.lst (xs ++ [d])))))) : Always P (app i m e) := by
  rw [app_eq, var_eq h, bind_ok]
  refine hm.bind fun d hd => ?_
  show Always P (if xs.length < SZ then _ else _)
  rw [if_pos hz]
  exact k d hd
theorem addp {e : Env} {c d : D} (k n : Nat) (hc : c = nD k) (hd : d = nD n) (h : e[0]? = some (some poolD)) (h0 : 0 < n) (h1 : n < 1000000) : Always (fun x => ∃ a : Nat, a < n ∧ x = nD (k + a)) (bin oadd (cst c) (call m_law_pick (argC (var 0) (argC (cst d) argN))) e) := by
  rw [bin_eq, cst_eq, bind_ok]
  refine (pickc (Q := fun d => ∃ i : Nat, i < n ∧ d = nD i) n h rfl hd h0 h1 fun i hi => ⟨i, hi, rfl⟩).bind ?_
  rintro _ ⟨i, hi, rfl⟩
  rw [hc, nadd]
  exact ⟨i, hi, rfl⟩
theorem names11 : ∀ i : Nat, i < 11 → ∃ s : String, oidx (.tup [.str "zero", .str "ones", .str "not", .str "and", .str "or", .str "xor", .str "shift", .str "minus", .str "add", .str "sub", .str "count"]) (nD i) = .ok (.str s) ∧ s.length ≤ 5 := fun i hi => by
  have : i = 0 ∨ i = 1 ∨ i = 2 ∨ i = 3 ∨ i = 4 ∨ i = 5 ∨ i = 6 ∨ i = 7 ∨ i = 8 ∨ i = 9 ∨ i = 10 := by omega
  rcases this with rfl | rfl | rfl | rfl | rfl | rfl | rfl | rfl | rfl | rfl | rfl
  · exact ⟨"zero", rfl, by decide⟩
  · exact ⟨"ones", rfl, by decide⟩
  · exact ⟨"not", rfl, by decide⟩
  · exact ⟨"and", rfl, by decide⟩
  · exact ⟨"or", rfl, by decide⟩
  · exact ⟨"xor", rfl, by decide⟩
  · exact ⟨"shift", rfl, by decide⟩
  · exact ⟨"minus", rfl, by decide⟩
  · exact ⟨"add", rfl, by decide⟩
  · exact ⟨"sub", rfl, by decide⟩
  · exact ⟨"count", rfl, by decide⟩
abbrev nT : D := .tup [.str "zero", .str "ones", .str "not", .str "and", .str "or", .str "xor", .str "shift", .str "minus", .str "add", .str "sub", .str "count"]
def Num (L : Nat) (ns : List Nat) : Prop := 1 ≤ ns.length ∧ ns.length ≤ L ∧ ∀ a ∈ ns, a < 1000
theorem Num.snoc {L a : Nat} {ns : List Nat} (h : Num L ns) (ha : a < 1000) : Num (L + 1) (ns ++ [a]) := by
  obtain ⟨h1, h2, h3⟩ := h
  refine ⟨by simp, by simp; omega, fun x hx => ?_⟩
  rcases List.mem_append.mp hx with hx | hx
  · exact h3 x hx
  · rw [List.mem_singleton.mp hx]
    exact ha
abbrev dE (k : Nat) (s : String) (ns : List Nat) (o5 o6 : Option D) : Env := [some poolD, some (nD k), some nT, some (.str s), some (.lst (ns.map nD)), o5, o6, none]
theorem dl_end {k : Nat} {s : String} {ns : List Nat} (hs : s.length ≤ 5) (hn : Num 6 ns) (o5 o6 : Option D) : Always (RetP (StrP 60)) (ret (mtx ojoin (cst (.str " ")) (bin oadd (lstE (argC (var 3) argN)) (lcE (iseq (var 4)) [7] (gnm 7) yes (un bstr (var 7))))) (dE k s ns o5 o6)) := by
  obtain ⟨h1, h2, h3⟩ := hn
  have z6 : ns.length ≤ SZ := Nat.le_trans h2 (by decide)
  have lc : lcE (iseq (var 4)) [7] (gnm 7) yes (un bstr (var 7)) (dE k s ns o5 o6) = .ok (.lst ((ns.map nS).map D.str)) := by
    have := lc_mapI (it := iseq (var 4)) (vs := [7]) (g := gnm 7) (elt := un bstr (var 7)) (e := dE k s ns o5 o6) (ys := ns) (k := nD) (h := fun a => .str (nS a)) rfl z6 fun a ha => ⟨_, rfl, by
      show bstr (nD a) = _
      exact bstr_n (by have := h3 a ha; omega)⟩
    rw [this, List.map_map]
    rfl
  have e : bin oadd (lstE (argC (var 3) argN)) (lcE (iseq (var 4)) [7] (gnm 7) yes (un bstr (var 7))) (dE k s ns o5 o6) = .ok (.lst ((s :: ns.map nS).map D.str)) := by
    rw [bin_eq]
    show (chk 1 (D.lst [.str s]) >>= fun x => _) = _
    rw [chk1, bind_ok, lc, bind_ok]
    have := add_l (a := [s]) (b := ns.map nS) (by
      rw [List.length_map]
      exact Nat.le_trans (show _ ≤ 7 by simp; omega) (by decide))
    exact this
  have tt : totL (s :: ns.map nS) ≤ 60 := by
    rw [tot_cons]
    have : totL (ns.map nS) ≤ ns.length * 7 := by
      have sl := sum_le (ws := ns.map nS) (L := 6) (fun w hw => by
        obtain ⟨a, ha, rfl⟩ := List.mem_map.mp hw
        exact nS_len (by have := h3 a ha; omega))
      have st := sum_tot (ns.map nS)
      rw [List.length_map] at sl st
      omega
    have := Nat.mul_le_mul h2 (Nat.le_refl 7)
    omega
  obtain ⟨r, q, hr⟩ := join_P spc tt (by omega)
  refine ret_1 (d := .str r) ?_ ⟨r, rfl, hr⟩
  rw [mtx_eq]
  show (bin oadd (lstE (argC (var 3) argN)) (lcE (iseq (var 4)) [7] (gnm 7) yes (un bstr (var 7))) (dE k s ns o5 o6) >>= fun y => ojoin (.str " ") y) = _
  rw [e, bind_ok]
  exact q
theorem deed_line_ok {k : Nat} (hk : 0 < k) (hk2 : k ≤ 1000) : Always (StrP 60) (m_law_deed_line [poolD, nD k]) := by
  unfold m_law_deed_line
  rw [fn2]
  refine done_r ?_
  show Always _ (seq (asg (gnm 2) _) (seq (asg (gnm 3) _) (seq (Py.ite _ (ret _) skip) (seq (asg (gnm 4) (lstE (argC (call m_law_pick (argC (var 0) (argC (var 1) argN))) argN))) (seq (Py.ite _ (seq (asg (gnm 5) _) (seq (asg (gnm 4) _) (for_ _ (gnm 6) (app 4 (call m_law_pick (argC (var 0) (argC (var 1) argN))))))) (Py.ite _ (app 4 (call m_law_pick (argC (var 0) (argC (var 1) argN)))) skip)) (ret _))))) [some poolD, some (nD k), none, none, none, none, none, none])
  refine asg_d (d := nT) rfl ?_
  refine asg_a (Q := StrP 5) ?_ ?_
  · rw [bin_eq]
    show Always _ (Res.ok nT >>= fun x => call m_law_pick (argC (var 0) (argC (cst (.int 11)) argN)) [some poolD, some (nD k), some nT, none, none, none, none, none] >>= fun y => oidx x y)
    rw [bind_ok]
    refine (pickc (Q := fun d => ∃ i : Nat, i < 11 ∧ d = nD i) 11 rfl rfl rfl (by omega) (by omega) fun i hi => ⟨i, hi, rfl⟩).bind ?_
    rintro _ ⟨i, hi, rfl⟩
    obtain ⟨s, q, hs⟩ := names11 i hi
    rw [q]
    exact ⟨s, rfl, hs⟩
  rintro _ ⟨s, rfl, hs⟩
  show Always _ (seq (Py.ite _ (ret (var 3)) skip) _ [some poolD, some (nD k), some nT, some (.str s), none, none, none, none])
  have c1 : tst (bin oin (var 3) (tupE (argC (cst (.str "zero")) (argC (cst (.str "ones")) argN)))) [some poolD, some (nD k), some nT, some (.str s), none, none, none, none] = .ok (decide (s ∈ ["zero", "ones"])) := by
    show ((oin (.str s) (.tup [.str "zero", .str "ones"])) >>= truthy) = _
    rw [in2]
    rfl
  by_cases h1 : s ∈ ["zero", "ones"]
  · exact ite_ret (c1.trans (by rw [decide_eq_true h1])) (ret_1 (d := .str s) rfl ⟨s, rfl, by omega⟩)
  refine chk_p1 (c1.trans (by rw [decide_eq_false h1])) ?_
  refine asg_a (Q := fun d => ∃ a : Nat, a < k ∧ d = .lst ([a].map nD)) ?_ ?_
  · rw [lstE_eq]
    refine Always.bind (Q := fun ds => ∃ a : Nat, a < k ∧ ds = [nD a]) ?_ ?_
    · rw [argC_eq]
      refine (pickc (Q := fun d => ∃ a : Nat, a < k ∧ d = nD a) k rfl rfl rfl hk (by omega) fun i hi => ⟨i, hi, rfl⟩).bind ?_
      rintro _ ⟨a, ha, rfl⟩
      exact ⟨a, ha, rfl⟩
    · rintro _ ⟨a, ha, rfl⟩
      show Always _ (chk 1 (.lst [nD a]))
      rw [chk1]
      exact ⟨a, ha, rfl⟩
  rintro _ ⟨a, ha, rfl⟩
  show Always _ (seq (Py.ite _ _ _) _ (dE k s [a] none none))
  have n1 : Num 1 [a] := ⟨by simp, by simp, fun x hx => by rw [List.mem_singleton.mp hx]; omega⟩
  refine seq_a (I := fun e => ∃ ns o5 o6, Num 6 ns ∧ e = dE k s ns o5 o6) ?_ ?_
  · have c2 : tst (bin oeq (var 3) (cst (.str "count"))) (dE k s [a] none none) = .ok (s == "count") := rfl
    refine ite_a c2 (fun _ => ?_) fun _ => ?_
    · refine asg_a (Q := fun d => ∃ p : Nat, 0 < p ∧ p ≤ 5 ∧ d = nD p) ?_ ?_
      · rw [bin_eq]
        show Always _ (Res.ok (Py.D.tup [.int 2, .int 3, .int 5]) >>= fun x => call m_law_pick (argC (var 0) (argC (cst (.int 3)) argN)) (dE k s [a] none none) >>= fun y => oidx x y)
        rw [bind_ok]
        refine (pickc (Q := fun d => ∃ i : Nat, i < 3 ∧ d = nD i) 3 rfl rfl rfl (by omega) (by omega) fun i hi => ⟨i, hi, rfl⟩).bind ?_
        rintro _ ⟨i, hi, rfl⟩
        have : i = 0 ∨ i = 1 ∨ i = 2 := by omega
        rcases this with rfl | rfl | rfl
        · exact ⟨2, by omega, by omega, rfl⟩
        · exact ⟨3, by omega, by omega, rfl⟩
        · exact ⟨5, by omega, by omega, rfl⟩
      rintro _ ⟨p, p0, p5, rfl⟩
      refine asg_a (Q := fun d => ∃ ns, Num 3 ns ∧ d = .lst (ns.map nD)) ?_ ?_
      · rw [lstE_eq]
        refine Always.bind (Q := fun ds => ∃ r : Nat, r < p ∧ ds = [nD p, nD r, nD a]) ?_ ?_
        · rw [argC_eq, var_eq (d := nD p) rfl, bind_ok]
          refine Always.bind (Q := fun ds => ∃ r : Nat, r < p ∧ ds = [nD r, nD a]) ?_ ?_
          · rw [argC_eq]
            refine (pickc (Q := fun d => ∃ r : Nat, r < p ∧ d = nD r) p rfl rfl rfl p0 (by omega) fun i hi => ⟨i, hi, rfl⟩).bind ?_
            rintro _ ⟨r, hr, rfl⟩
            have i0 : bin oidx (var 4) (cst (.int 0)) ((dE k s [a] none none).set 5 (some (nD p))) = .ok (nD a) := by
              show oidx (.lst ([a].map nD)) (.int ((0 : Nat) : Int)) = _
              exact oidx_l (k := 0) rfl
            rw [argC_eq, i0]
            exact ⟨r, hr, rfl⟩
          · rintro _ ⟨r, hr, rfl⟩
            exact ⟨r, hr, rfl⟩
        · rintro _ ⟨r, hr, rfl⟩
          show Always _ (chk 3 (.lst [nD p, nD r, nD a]))
          rw [chk_ok (by decide)]
          refine ⟨[p, r, a], ⟨by simp, by simp, fun x hx => ?_⟩, rfl⟩
          simp only [List.mem_cons, List.not_mem_nil, or_false] at hx
          omega
      rintro _ ⟨ns, hn, rfl⟩
      show Always _ (for_ _ _ _ (dE k s ns (some (nD p)) none))
      rw [for_eq]
      refine Always.bind (Q := fun ys => ∃ c : Nat, c < 4 ∧ ys = (List.range c).map nD) ?_ ?_
      · unfold irng1
        refine (pickc (Q := fun d => ∃ c : Nat, c < 4 ∧ d = nD c) 4 rfl rfl rfl (by omega) (by omega) fun i hi => ⟨i, hi, rfl⟩).bind ?_
        rintro _ ⟨c, hc, rfl⟩
        show Always _ (if ((c : Nat) : Int).natAbs < B62 then Res.ok (rngL 0 ((c : Nat) : Int)) else .stuck)
        rw [if_pos (Nat.lt_of_lt_of_le (show ((c : Nat) : Int).natAbs < 4 by omega) (by decide))]
        exact ⟨c, hc, rng_map c⟩
      · rintro _ ⟨c, hc, rfl⟩
        refine (forR_a (fun j e => ∃ ns o6, Num (3 + j) ns ∧ e = dE k s ns (some (nD p)) o6) ⟨ns, none, hn, rfl⟩ ?_).mono ?_
        · rintro j _ hj ⟨ns, o6, hn, rfl⟩
          show Always _ (app 4 _ [some poolD, some (nD k), some nT, some (.str s), some (.lst (ns.map nD)), some (nD p), some (nD j), none])
          refine app_a (xs := ns.map nD) rfl (by
            rw [List.length_map]
            exact Nat.lt_of_le_of_lt (show _ ≤ 10 by have := hn.2.1; omega) (by decide)) (pickc (Q := fun d => ∃ b : Nat, b < k ∧ d = nD b) k rfl rfl rfl hk (by omega) fun i hi => ⟨i, hi, rfl⟩) ?_
          rintro _ ⟨b, hb, rfl⟩
          exact ⟨_, rfl, ns ++ [b], some (nD j), hn.snoc (by omega), by simp only [dE, List.map_append]; rfl⟩
        · rintro _ ⟨_, rfl, ns, o6, hn, rfl⟩
          exact ⟨_, rfl, ns, _, o6, ⟨hn.1, by have := hn.2.1; omega, hn.2.2⟩, rfl⟩
    · have c3 : tst (bin onotin (var 3) (tupE (argC (cst (.str "not")) (argC (cst (.str "shift")) (argC (cst (.str "minus")) argN))))) (dE k s [a] none none) = .ok (!decide (s ∈ ["not", "shift", "minus"])) := by
        show ((onotin (.str s) (.tup [.str "not", .str "shift", .str "minus"])) >>= truthy) = _
        have := nin_strs s ["not", "shift", "minus"]
        change onotin _ (.tup [.str "not", .str "shift", .str "minus"]) = _ at this
        rw [this]
        rfl
      refine ite_a c3 (fun _ => ?_) fun _ => ⟨_, rfl, [a], none, none, ⟨n1.1, by simp, n1.2.2⟩, rfl⟩
      refine app_a (xs := [a].map nD) rfl (by show 1 < SZ; decide) (pickc (Q := fun d => ∃ b : Nat, b < k ∧ d = nD b) k rfl rfl rfl hk (by omega) fun i hi => ⟨i, hi, rfl⟩) ?_
      rintro _ ⟨b, hb, rfl⟩
      have q := n1.snoc (a := b) (by omega)
      exact ⟨_, rfl, [a] ++ [b], none, none, ⟨q.1, by simp, q.2.2⟩, rfl⟩
  rintro _ ⟨ns, o5, o6, hn, rfl⟩
  exact dl_end hs hn o5 o6
end Py.U
namespace Py.U
open PySem
theorem ite_or {Q : D → Prop} {t : TM} {b r : SM} {e : Env} (ht : Always (fun _ => True) (t e)) (hb : Always (RetP Q) (b e)) (hr : Always (RetP Q) (r e)) : Always (RetP Q) (seq (Py.ite t b skip) r e) := by
  rw [seq_eq, ite_eq]
  refine Always.bind (Q := fun f => RetP Q f ∨ f = .next e) (ht.bind fun c _ => ?_) ?_
  · cases c
    · exact Or.inr rfl
    · exact hb.mono fun f hf => Or.inl hf
  · rintro f (⟨d, rfl, hd⟩ | rfl)
    · exact ⟨d, rfl, hd⟩
    · exact hr
theorem cat_s {a b : EM} {e : Env} {x y : String} (ha : a e = .ok (.str x)) (hb : b e = .ok (.str y)) (hz : x.length + y.length ≤ 1000) : bin oadd a b e = .ok (.str (x ++ y)) := by
  rw [bin_eq, ha, bind_ok, hb, bind_ok, app_str (Nat.le_trans hz (by decide))]
theorem num_s {a : EM} {e : Env} {n : Nat} (h : a e = .ok (nD n)) (hn : n ≤ 1000000) : un bstr a e = .ok (.str (nS n)) ∧ (nS n).length ≤ 7 := by
  obtain ⟨q1, q2⟩ := bstr_b hn
  rw [un_eq, h, bind_ok]
  exact ⟨q1, q2⟩
theorem pick_s {e : Env} {m : EM} (n : Nat) (hm : m e = .ok (nD n)) (h : e[0]? = some (some poolD)) (h0 : 0 < n) (h1 : n ≤ 1000000) (h2 : n < 1000000) : Always (StrP 7) (un bstr (call m_law_pick (argC (var 0) (argC m argN))) e) := by
  rw [un_eq]
  refine (pickc (Q := fun d => ∃ i : Nat, i < n ∧ d = nD i) n h hm rfl h0 h2 fun i hi => ⟨i, hi, rfl⟩).bind ?_
  rintro _ ⟨i, hi, rfl⟩
  obtain ⟨q1, q2⟩ := bstr_b (n := i) (by omega)
  rw [q1]
  exact ⟨_, rfl, q2⟩
theorem l4 : ("row " : String).length = 4 := by decide
theorem l8 : ("machine " : String).length = 8 := by decide
theorem l1 : (" " : String).length = 1 := by decide
def Lns (B : Nat) (d : D) : Prop := ∃ ls : List String, d = .lst (ls.map D.str) ∧ totL ls ≤ B
theorem tot_snoc1 (ls : List String) (s : String) : totL (ls ++ [s]) = totL ls + (s.length + 1) := by
  rw [tot_app]
  rfl
abbrev lE (n : Nat) (c : Bool) (m : Nat) (ls : List String) (o5 o6 o7 o8 : Option D) : Env := [some poolD, some (nD n), some (.bl c), some (nD m), some (.lst (ls.map D.str)), o5, o6, o7, o8]
theorem zSZ {ls : List String} {B : Nat} (h : totL ls ≤ B) (hB : B ≤ 100000) : (ls.map D.str).length < SZ := by
  have := tot_len ls
  rw [List.length_map]
  exact Nat.lt_of_le_of_lt (show _ ≤ 100000 by omega) (by decide)
def rowS : SM := (seq (asg (gnm 3) (call m_law_pick (argC (var 0) (argC (cst (.int 7)) argN))))
  (seq (Py.ite (tst (var 2)) (asg (gnm 3) (bin oadd (cst (.int 90)) (call m_law_pick (argC (var 0) (argC (cst (.int 40)) argN))))) skip)
  (seq (asg (gnm 4) (lstE (argC (bin oadd (bin oadd (bin oadd (bin oadd (bin oadd (cst (.str "row ")) (un bstr (var 1))) (cst (.str " "))) (un bstr (var 3))) (cst (.str " "))) (un bstr (call m_law_pick (argC (var 0) (argC (bin oadd (var 1) (var 3)) argN))))) argN)))
  (seq (for_ (irng1 (var 3)) (gnm 5) (app 4 (call m_law_deed_line (argC (var 0) (argC (bin oadd (var 1) (var 5)) argN)))))
  (ret (var 4))))))
theorem tst_v {c : Bool} {e : Env} {i : Nat} (h : e[i]? = some (some (.bl c))) : tst (var i) e = .ok c := by
  rw [tst_eq, var_eq h]
  rfl
theorem rowS_ok {n : Nat} (h1 : 1 ≤ n) (h3 : n ≤ 3) (c : Bool) : Always (RetP (Lns 8000)) (rowS [some poolD, some (nD n), some (.bl c), none, none, none, none, none, none]) := by
  unfold rowS
  refine asg_a (Q := fun d => ∃ i : Nat, i < 7 ∧ d = nD i) (pickc 7 rfl rfl rfl (by omega) (by omega) fun i hi => ⟨i, hi, rfl⟩) ?_
  rintro _ ⟨m0, hm0, rfl⟩
  refine seq_a (I := fun e => ∃ m : Nat, m ≤ 129 ∧ e = [some poolD, some (nD n), some (.bl c), some (nD m), none, none, none, none, none]) ?_ ?_
  · refine ite_a (tst_v rfl) (fun _ => ?_) fun _ => ⟨_, rfl, m0, by omega, rfl⟩
    refine asg_1 (addp 90 40 rfl rfl rfl (by omega) (by omega)) ?_
    rintro _ ⟨i, hi, rfl⟩
    exact ⟨_, rfl, 90 + i, by omega, rfl⟩
  rintro _ ⟨m, hm, rfl⟩
  refine asg_a (Q := fun d => ∃ s : String, d = .lst ([s].map D.str) ∧ s.length ≤ 40) ?_ ?_
  · obtain ⟨q1, q2⟩ := num_s (a := var 1) (e := [some poolD, some (nD n), some (.bl c), some (nD m), none, none, none, none, none]) (n := n) rfl (by omega)
    obtain ⟨r1, r2⟩ := num_s (a := var 3) (e := [some poolD, some (nD n), some (.bl c), some (nD m), none, none, none, none, none]) (n := m) rfl (by omega)
    have e1 := cat_s (a := cst (.str "row ")) rfl q1 (by rw [l4]; omega)
    have e2 := cat_s (b := cst (.str " ")) e1 rfl (by rw [String.length_append, l4, l1]; omega)
    have e3 := cat_s e2 r1 (by rw [String.length_append, String.length_append, l4, l1]; omega)
    have e4 := cat_s (b := cst (.str " ")) e3 rfl (by rw [String.length_append, String.length_append, String.length_append, l4, l1]; omega)
    rw [lstE_eq, argC_eq]
    refine Always.bind (Q := fun ds => ∃ s : String, ds = [.str s] ∧ s.length ≤ 40) ?_ ?_
    · refine Always.bind (Q := StrP 40) ?_ ?_
      · rw [bin_eq, e4, bind_ok]
        refine (pick_s (n + m) (nadd n m) rfl (by omega) (by omega) (by omega)).bind ?_
        rintro _ ⟨s, rfl, hs⟩
        rw [app_str (by
          rw [String.length_append, String.length_append, String.length_append, String.length_append, l4, l1]
          exact Nat.le_trans (show _ ≤ 100 by omega) (by decide))]
        refine ⟨_, rfl, ?_⟩
        rw [String.length_append, String.length_append, String.length_append, String.length_append, String.length_append, l4, l1]
        omega
      · rintro _ ⟨s, rfl, hs⟩
        exact ⟨s, rfl, hs⟩
    · rintro _ ⟨s, rfl, hs⟩
      show Always _ (chk 1 (.lst [D.str s]))
      rw [chk1]
      exact ⟨s, rfl, hs⟩
  rintro _ ⟨s, rfl, hs⟩
  refine for_s (I := fun e => ∃ ls o5, totL ls ≤ 41 + 61 * m ∧ e = lE n c m ls o5 none none none) (irng_n (n := m) rfl (by omega)) ?_ ?_
  · refine forR_a (fun j e => ∃ ls o5, totL ls ≤ 41 + 61 * j ∧ e = lE n c m ls o5 none none none) ⟨[s], none, by
      have : totL [s] = s.length + 1 := rfl
      omega, rfl⟩ ?_
    rintro j _ hj ⟨ls, o5, ht, rfl⟩
    show Always _ (app 4 (call m_law_deed_line (argC (var 0) (argC (bin oadd (var 1) (var 5)) argN))) (lE n c m ls (some (nD j)) none none none))
    refine app_a (Q := StrP 60) (xs := ls.map D.str) rfl (zSZ ht (by omega)) ?_ ?_
    · have q : bin oadd (var 1) (var 5) (lE n c m ls (some (nD j)) none none none) = .ok (nD (n + j)) := nadd n j
      rw [call_eq, argC_eq, var_eq (d := poolD) rfl, bind_ok, argC_eq, q, bind_ok]
      exact deed_line_ok (by omega) (by omega)
    · rintro _ ⟨v, rfl, hv⟩
      refine ⟨_, rfl, ls ++ [v], some (nD j), ?_, by simp only [lE, List.map_append]; rfl⟩
      rw [tot_snoc1]
      omega
  rintro _ ⟨ls, o5, ht, rfl⟩
  exact ret_1 (d := .lst (ls.map D.str)) rfl ⟨ls, rfl, by omega⟩
def macB : SM := (seq (asg (gnm 7) (lstE argN))
  (seq (for_ (irng1 (bin oshl (cst (.int 1)) (var 1))) (gnm 8) (app 7 (bin oadd (bin oadd (un bstr (call m_law_pick (argC (var 0) (argC (var 3) argN)))) (cst (.str " "))) (un bstr (call m_law_pick (argC (var 0) (argC (cst (.int 2)) argN)))))))
  (app 4 (mtx ojoin (cst (.str " ")) (var 7)))))
def macS : SM := (seq (asg (gnm 3) (bin oadd (cst (.int 1)) (call m_law_pick (argC (var 0) (argC (cst (.int 5)) argN)))))
  (seq (Py.ite (tst (var 2)) (seq (asg (gnm 1) (cst (.int 1)))
  (asg (gnm 3) (bin oadd (cst (.int 90)) (call m_law_pick (argC (var 0) (argC (cst (.int 40)) argN)))))) skip)
  (seq (asg (gnm 4) (lstE (argC (bin oadd (bin oadd (bin oadd (cst (.str "machine ")) (un bstr (var 1))) (cst (.str " "))) (un bstr (var 3))) argN)))
  (seq (for_ (irng1 (var 3)) (gnm 6) macB)
  (ret (var 4))))))
theorem macB_ok {n m j B : Nat} {c : Bool} {ls : List String} (h1 : 1 ≤ n) (h3 : n ≤ 3) (m0 : 0 < m) (hm : m ≤ 129) (ht : totL ls ≤ B) (hB : B ≤ 8000) (o6 o7 o8 : Option D) : Always (NX fun e => ∃ ls o6 o7 o8, totL ls ≤ B + (16 * 2 ^ n + 1) ∧ e = lE n c m ls none o6 o7 o8) (forB (gnm 6) macB (nD j) (lE n c m ls none o6 o7 o8)) := by
  show Always _ (macB (lE n c m ls none (some (nD j)) o7 o8))
  have p8 : 2 ^ n ≤ 8 := Nat.pow_le_pow_right (by decide) h3
  unfold macB
  refine asg_d (d := .lst (([] : List String).map D.str)) rfl ?_
  show Always _ (seq (for_ _ _ _) _ (lE n c m ls none (some (nD j)) (some (.lst (([] : List String).map D.str))) o8))
  refine for_s (I := fun e => ∃ vs o8, totL vs ≤ 16 * 2 ^ n ∧ e = lE n c m ls none (some (nD j)) (some (.lst (vs.map D.str))) o8) (irng_n (n := 2 ^ n) (by
    show oshl (.int 1) (nD n) = _
    exact shl_nD (by omega)) (by omega)) ?_ ?_
  · refine forR_a (fun i e => ∃ vs o8, totL vs ≤ 16 * i ∧ e = lE n c m ls none (some (nD j)) (some (.lst (vs.map D.str))) o8) ⟨[], o8, Nat.zero_le _, rfl⟩ ?_
    rintro i _ hi ⟨vs, o8, hv, rfl⟩
    show Always _ (app 7 _ (lE n c m ls none (some (nD j)) (some (.lst (vs.map D.str))) (some (nD i))))
    refine app_a (Q := StrP 15) (xs := vs.map D.str) rfl (zSZ hv (by omega)) ?_ ?_
    · rw [bin_eq]
      refine Always.bind (Q := StrP 8) ?_ ?_
      · rw [bin_eq]
        refine (pick_s m (m := var 3) rfl rfl m0 (by omega) (by omega)).bind ?_
        rintro _ ⟨a, rfl, ha⟩
        rw [cst_eq, bind_ok, app_str (by
          rw [l1]
          exact Nat.le_trans (show _ ≤ 10 by omega) (by decide))]
        exact ⟨_, rfl, by rw [String.length_append, l1]; omega⟩
      · rintro _ ⟨a, rfl, ha⟩
        refine (pick_s 2 (m := cst (.int 2)) rfl rfl (by omega) (by omega) (by omega)).bind ?_
        rintro _ ⟨b, rfl, hb⟩
        rw [app_str (Nat.le_trans (show _ ≤ 20 by omega) (by decide))]
        exact ⟨_, rfl, by rw [String.length_append]; omega⟩
    · rintro _ ⟨v, rfl, hv2⟩
      refine ⟨_, rfl, vs ++ [v], some (nD i), ?_, by simp only [lE, List.map_append]; rfl⟩
      rw [tot_snoc1]
      omega
  rintro _ ⟨vs, o8, hv, rfl⟩
  obtain ⟨s, q, hs⟩ := join_P spc hv (by omega)
  refine app_a (Q := fun d => d = .str s) (xs := ls.map D.str) rfl (zSZ ht (by omega)) ?_ ?_
  · rw [mtx_eq]
    show Always _ (ojoin (.str " ") (.lst (vs.map D.str)))
    show Always _ (joinL9 " " (vs.map D.str))
    rw [q]
    rfl
  · rintro _ rfl
    refine ⟨_, rfl, ls ++ [s], _, _, _, ?_, by simp only [lE, List.map_append]; rfl⟩
    rw [tot_snoc1]
    omega
theorem macS_ok {n : Nat} (h1 : 1 ≤ n) (h3 : n ≤ 3) (c : Bool) : Always (RetP (Lns 8000)) (macS [some poolD, some (nD n), some (.bl c), none, none, none, none, none, none]) := by
  unfold macS
  refine asg_a (addp 1 5 rfl rfl rfl (by omega) (by omega)) ?_
  rintro _ ⟨m0, hm0, rfl⟩
  refine seq_a (I := fun e => ∃ n m : Nat, 1 ≤ n ∧ n ≤ 3 ∧ 0 < m ∧ m ≤ 129 ∧ m * (16 * 2 ^ n + 1) ≤ 5000 ∧ e = [some poolD, some (nD n), some (.bl c), some (nD m), none, none, none, none, none]) ?_ ?_
  · refine ite_a (tst_v rfl) (fun _ => ?_) fun _ => ⟨_, rfl, n, 1 + m0, h1, h3, by omega, by omega, ?_, rfl⟩
    · refine asg_d (d := nD 1) rfl (asg_1 (addp 90 40 rfl rfl rfl (by omega) (by omega)) ?_)
      rintro _ ⟨i, hi, rfl⟩
      refine ⟨_, rfl, 1, 90 + i, by omega, by omega, by omega, by omega, ?_, rfl⟩
      show (90 + i) * 33 ≤ 5000
      omega
    · have p8 : 2 ^ n ≤ 8 := Nat.pow_le_pow_right (by decide) h3
      have := Nat.mul_le_mul (show 1 + m0 ≤ 5 by omega) (show 16 * 2 ^ n + 1 ≤ 129 by omega)
      omega
  rintro _ ⟨n, m, h1, h3, m0, hm, hb, rfl⟩
  refine asg_a (Q := fun d => ∃ s : String, d = .lst ([s].map D.str) ∧ s.length ≤ 40) ?_ ?_
  · obtain ⟨q1, q2⟩ := num_s (a := var 1) (e := [some poolD, some (nD n), some (.bl c), some (nD m), none, none, none, none, none]) (n := n) rfl (by omega)
    obtain ⟨r1, r2⟩ := num_s (a := var 3) (e := [some poolD, some (nD n), some (.bl c), some (nD m), none, none, none, none, none]) (n := m) rfl (by omega)
    have e1 := cat_s (a := cst (.str "machine ")) rfl q1 (by rw [l8]; omega)
    have e2 := cat_s (b := cst (.str " ")) e1 rfl (by rw [String.length_append, l8, l1]; omega)
    have e3 := cat_s e2 r1 (by rw [String.length_append, String.length_append, l8, l1]; omega)
    rw [lstE_eq, argC_eq, e3]
    show Always _ (chk 1 (.lst [D.str _]))
    rw [chk1]
    refine ⟨_, rfl, ?_⟩
    rw [String.length_append, String.length_append, String.length_append, l8, l1]
    omega
  rintro _ ⟨s, rfl, hs⟩
  refine for_s (I := fun e => ∃ ls o6 o7 o8, totL ls ≤ 41 + m * (16 * 2 ^ n + 1) ∧ e = lE n c m ls none o6 o7 o8) (irng_n (n := m) rfl (by omega)) ?_ ?_
  · refine forR_a (fun j e => ∃ ls o6 o7 o8, totL ls ≤ 41 + j * (16 * 2 ^ n + 1) ∧ e = lE n c m ls none o6 o7 o8) ⟨[s], none, none, none, by
      have : totL [s] = s.length + 1 := rfl
      omega, rfl⟩ ?_
    rintro j _ hj ⟨ls, o6, o7, o8, ht, rfl⟩
    have hjm := Nat.mul_le_mul_right (16 * 2 ^ n + 1) (show j ≤ m by omega)
    refine (macB_ok h1 h3 m0 hm ht (by omega) o6 o7 o8).mono ?_
    rintro _ ⟨_, rfl, ls, o6, o7, o8, ht, rfl⟩
    refine ⟨_, rfl, ls, o6, o7, o8, ?_, rfl⟩
    rw [Nat.add_mul, Nat.one_mul]
    omega
  rintro _ ⟨ls, o6, o7, o8, ht, rfl⟩
  exact ret_1 (d := .lst (ls.map D.str)) rfl ⟨ls, rfl, by omega⟩
theorem lines_ok : Always (Lns 8000) (m_law_lines [poolD]) := by
  unfold m_law_lines
  rw [fn1]
  refine done_r ?_
  show Always _ (seq (asg (gnm 1) _) (seq (asg (gnm 2) _) (seq (Py.ite (tst (bin oeq (call m_law_pick (argC (var 0) (argC (cst (.int 2)) argN))) (cst (.int 0)))) rowS skip) macS)) [some poolD, none, none, none, none, none, none, none, none])
  refine asg_a (addp 1 3 rfl rfl rfl (by omega) (by omega)) ?_
  rintro _ ⟨a, ha, rfl⟩
  refine asg_a (Q := fun d => ∃ c : Bool, d = .bl c) ?_ ?_
  · rw [bin_eq]
    refine (pickc (Q := fun d => ∃ k : Nat, d = nD k) 12 rfl rfl rfl (by omega) (by omega) fun k _ => ⟨k, rfl⟩).bind ?_
    rintro _ ⟨k, rfl⟩
    rw [cst_eq, bind_ok]
    have : oeq (nD k) (.int 0) = .ok (.bl (decide (k = 0))) := nat_eq k 0
    rw [this]
    exact ⟨_, rfl⟩
  rintro _ ⟨c, rfl⟩
  exact ite_or (pick0 2 rfl (by omega) (by omega)) (rowS_ok (by omega) (by omega) c) (macS_ok (by omega) (by omega) c)
/-! ### the law -/
def bd : Nat → Nat
  | 0 => 8000
  | i + 1 => 2 * (bd i + 1) + 20
theorem bd3 : ∀ i : Nat, i ≤ 3 → bd i ≤ 70000 ∧ (i < 3 → bd i ≤ 60000) := by decide
def tldS : SM := (Py.ite (notT (tst (call m_law_told (argC (var 4) (argC (var 2) argN))))) (ret (cst (.bl false))) skip)
def askB : SM := (seq (asg (gnm 2) (mtx ojoin (cst (.str "\n")) (call m_law_lines (argC (var 0) argN))))
  (seq (for_ (irng1 (bin oidx (tupE (argC (cst (.int 0)) (argC (cst (.int 1)) (argC (cst (.int 1)) (argC (cst (.int 1)) (argC (cst (.int 2)) (argC (cst (.int 3)) argN))))))) (call m_law_pick (argC (var 0) (argC (cst (.int 6)) argN))))) (gnm 3) (asg (gnm 2) (call m_law_changed (argC (var 0) (argC (var 2) argN)))))
  (for_ (iseq (tupE (argC (cst (.str "row")) (argC (cst (.str "machine")) (argC (cst (.str "row")) (argC (cst (.str "machine")) argN)))))) (gnm 4) tldS)))
theorem cnt6 : ∀ i : Nat, i < 6 → ∃ c : Nat, c ≤ 3 ∧ oidx (.tup [.int 0, .int 1, .int 1, .int 1, .int 2, .int 3]) (nD i) = .ok (nD c) := fun i hi => by
  have : i = 0 ∨ i = 1 ∨ i = 2 ∨ i = 3 ∨ i = 4 ∨ i = 5 := by omega
  rcases this with rfl | rfl | rfl | rfl | rfl | rfl
  · exact ⟨0, by omega, rfl⟩
  · exact ⟨1, by omega, rfl⟩
  · exact ⟨1, by omega, rfl⟩
  · exact ⟨1, by omega, rfl⟩
  · exact ⟨2, by omega, rfl⟩
  · exact ⟨3, by omega, rfl⟩
theorem askB_ok (o1 o2 o3 o4 : Option D) : Always (NX fun e => ∃ o1 o2 o3 o4, e = [some poolD, o1, o2, o3, o4]) (askB [some poolD, o1, o2, o3, o4]) := by
  unfold askB
  refine asg_a (Q := StrP 8000) ?_ ?_
  · rw [mtx_eq]
    show Always _ (m_law_lines [poolD] >>= fun y => ojoin (.str "\n") y)
    refine lines_ok.bind ?_
    rintro _ ⟨ls, rfl, hl⟩
    obtain ⟨s, q, hs⟩ := join_P nwl hl (by omega)
    show Always _ (joinL9 "\n" (ls.map D.str))
    rw [q]
    exact ⟨s, rfl, hs⟩
  rintro _ ⟨t, rfl, ht⟩
  show Always _ (seq (for_ _ _ _) _ [some poolD, o1, some (.str t), o3, o4])
  refine seq_a (I := fun e => ∃ s o3, s.length ≤ 70000 ∧ e = [some poolD, o1, some (.str s), o3, o4]) ?_ ?_
  · rw [for_eq]
    refine Always.bind (Q := fun ys => ∃ c : Nat, c ≤ 3 ∧ ys = (List.range c).map nD) ?_ ?_
    · unfold irng1
      refine Always.bind (Q := fun d => ∃ c : Nat, c ≤ 3 ∧ d = nD c) ?_ ?_
      · rw [bin_eq]
        show Always _ (Res.ok (Py.D.tup [.int 0, .int 1, .int 1, .int 1, .int 2, .int 3]) >>= fun x => call m_law_pick (argC (var 0) (argC (cst (.int 6)) argN)) [some poolD, o1, some (.str t), o3, o4] >>= fun y => oidx x y)
        rw [bind_ok]
        refine (pickc (Q := fun d => ∃ i : Nat, i < 6 ∧ d = nD i) 6 rfl rfl rfl (by omega) (by omega) fun i hi => ⟨i, hi, rfl⟩).bind ?_
        rintro _ ⟨i, hi, rfl⟩
        obtain ⟨c, hc, q⟩ := cnt6 i hi
        rw [q]
        exact ⟨c, hc, rfl⟩
      · rintro _ ⟨c, hc, rfl⟩
        show Always _ (if ((c : Nat) : Int).natAbs < B62 then Res.ok (rngL 0 ((c : Nat) : Int)) else .stuck)
        rw [if_pos (Nat.lt_of_lt_of_le (show ((c : Nat) : Int).natAbs < 4 by omega) (by decide))]
        exact ⟨c, hc, rng_map c⟩
    · rintro _ ⟨c, hc, rfl⟩
      refine (forR_a (fun j e => ∃ s o3, s.length ≤ bd j ∧ e = [some poolD, o1, some (.str s), o3, o4]) ⟨t, o3, ht, rfl⟩ ?_).mono ?_
      · rintro j _ hj ⟨s, o3, hs, rfl⟩
        have b := (bd3 j (by omega)).2 (by omega)
        show Always _ (asg (gnm 2) (call m_law_changed (argC (var 0) (argC (var 2) argN))) [some poolD, o1, some (.str s), some (nD j), o4])
        refine asg_1 (Q := StrP (2 * (s.length + 1) + 20)) ?_ ?_
        · rw [call_eq, argC_eq, var_eq (d := poolD) rfl, bind_ok, argC_eq, var_eq (d := .str s) rfl, bind_ok]
          exact changed_ok (by omega)
        · rintro _ ⟨v, rfl, hv⟩
          refine ⟨_, rfl, v, some (nD j), ?_, rfl⟩
          show v.length ≤ 2 * (bd j + 1) + 20
          omega
      · rintro _ ⟨_, rfl, s, o3, hs, rfl⟩
        have b := (bd3 c hc).1
        exact ⟨_, rfl, s, o3, by omega, rfl⟩
  rintro _ ⟨s, o3, hs, rfl⟩
  have lp := forL_same (b := forB (gnm 4) tldS) (e := [some poolD, o1, some (.str s), o3, o4]) (I := fun E => ∃ o4, E = [some poolD, o1, some (.str s), o3, o4]) ⟨o4, rfl⟩ (xs := [.str "row", .str "machine", .str "row", .str "machine"]) (by
    rintro x hx _ ⟨o4, rfl⟩
    have hr := told_row (t := s) (by omega)
    have hm := told_mac (t := s) (by omega)
    have q : m_law_told [x, .str s] = .ok (.bl true) := by
      simp only [List.mem_cons, List.not_mem_nil, or_false] at hx
      rcases hx with rfl | rfl | rfl | rfl
      · exact hr
      · exact hm
      · exact hr
      · exact hm
    refine ⟨_, ?_, some x, rfl⟩
    rw [forB_eq, gnm_eq]
    show tldS [some poolD, o1, some (.str s), o3, some x] = _
    unfold tldS
    generalize D.str s = T at *
    simp [var, q])
  obtain ⟨e', lp, o4, rfl⟩ := lp
  have e : for_ (iseq (tupE (argC (cst (.str "row")) (argC (cst (.str "machine")) (argC (cst (.str "row")) (argC (cst (.str "machine")) argN)))))) (gnm 4) tldS [some poolD, o1, some (.str s), o3, o4] = .ok (.next [some poolD, o1, some (.str s), o3, o4]) ∨ True := .inr trivial
  rw [for_eq]
  show Always _ (Res.ok [D.str "row", .str "machine", .str "row", .str "machine"] >>= fun xs => forL (forB (gnm 4) tldS) xs _)
  rw [bind_ok, lp]
  exact ⟨_, rfl, _, _, _, _, rfl⟩
theorem ask_ok : Always (fun d => d = .bl true) (m_law_ask [poolD]) := by
  unfold m_law_ask
  rw [fn1]
  refine done_r ?_
  show Always _ (seq (for_ (irng1 (cst (.int 3))) (gnm 1) askB) (ret (cst (.bl true))) [some poolD, none, none, none, none])
  refine for_s (I := fun e => ∃ o1 o2 o3 o4, e = [some poolD, o1, o2, o3, o4]) (irng_n (n := 3) rfl (by omega)) ?_ ?_
  · refine forR_a (fun _ e => ∃ o1 o2 o3 o4, e = [some poolD, o1, o2, o3, o4]) ⟨_, _, _, _, rfl⟩ ?_
    rintro i _ _ ⟨o1, o2, o3, o4, rfl⟩
    exact askB_ok (some (nD i)) o2 o3 o4
  rintro _ ⟨o1, o2, o3, o4, rfl⟩
  exact ret_1 (d := .bl true) rfl rfl
/-- the script's cells as a pool -/
theorem allI_map : ∀ ns : List Int, (allI (ns.map .int)).isSome = true
  | [] => rfl
  | n :: ns => by
    have ih := allI_map ns
    show ((allI (ns.map .int)).map (n :: ·)).isSome = true
    cases h : allI (ns.map .int) with
    | none => rw [h] at ih; cases ih
    | some r => rfl
theorem law_true (ns : List Int) (h : ns.length ≤ 63) : Always (fun d => d = .bl true) (m_law [.lst (ns.map .int)]) := by
  have hc : cut (ns.map Py.D.int) none (some (63 : Int)) = ns.map Py.D.int := by
    show ((ns.map Py.D.int).drop 0).take (min 63 (ns.map Py.D.int).length - 0) = _
    rw [List.drop_zero, List.take_of_length_le (by rw [List.length_map]; omega)]
  have e1 : lcE (iseq (slc (var 0) none (some (cst (.int 63))))) [2] (gnm 2) yes (un bint (var 2)) [some (.lst (ns.map .int)), none, none] = .ok (.lst (ns.map .int)) := by
    refine lc_mapI (k := Py.D.int) (h := Py.D.int) (ys := ns) ?_ (le_sz (by omega)) fun z _ => ⟨[some (.lst (ns.map .int)), none, some (.int z)], rfl, rfl⟩
    show ((Res.ok (Py.D.lst (cut (ns.map Py.D.int) none (some 63)))) >>= _) = _
    rw [hc]
    rfl
  unfold m_law
  rw [fn1]
  unfold b_law
  refine done_r ?_
  refine asg_d (d := poolD) ?_ ?_
  · show (lstE _ _ >>= mkpF) = _
    rw [lstE_eq, argC_eq]
    show ((lcE (iseq (slc (var 0) none (some (cst (.int 63))))) [2] (gnm 2) yes (un bint (var 2)) [some (.lst (ns.map .int)), none, none] >>= _) >>= _) >>= mkpF = _
    rw [e1]
    show mkpF (.lst [.lst (ns.map .int), .int 0, .int 0, .int 1]) = _
    show (if (allI (ns.map .int)).isSome = true ∧ _ then _ else _) = _
    rw [if_pos ⟨allI_map ns, by omega, by omega, by omega⟩]
  · rw [thru_eq]
    refine Always.noexc (ret_r ?_)
    exact ask_ok
end Py.U
open PySem PySem.W PySem.Calls PyProof.Rows
theorem PySem.Challenge.cw_onlycarries_k68_faults_of_texts_read_holds : PySem.Challenge.rw_onlycarries_k68_faults_of_texts_read.Holds := by
  w_on; o_law
  refine HandSHeadRun.head_any (r := OpenLaw.row PySem.Challenge.rw_onlycarries_k68_faults_of_texts_read) (q := view (OpenLaw.row PySem.Challenge.rw_onlycarries_k68_faults_of_texts_read).prog [64]) (H := Py.hkY) (ob := Py.ob) (M := 8000) (loose := Py.lo) (d := HandSHeadRun.topDef (OpenLaw.row PySem.Challenge.rw_onlycarries_k68_faults_of_texts_read).prog 64) (kwd := []) Py.ob_eq
    (by kernel_rfl) (fun s => by kernel_rfl) Py.run (by kernel_rfl) (by kernel_rfl) (by kernel_rfl) (by rfl) (by first | assumption | decide +kernel) (by decide +kernel) ⟨rfl, rfl, rfl, rfl, rfl, by decide +kernel⟩ ?hw ?hc
  case hw => w_witness2
  case hc =>
    refine Py.walk_ofW (l := PySem.Challenge.rw_onlycarries_k68_faults_of_texts_read) (n := 63) (k := 16) (x := "script") (CX := fun w => L2N.CX PySem.Challenge.pw_onlycarries_k68_faults_of_texts_read w) rfl (by decide) (by kernel_rfl) ⟨rfl, by decide, by decide⟩ ?F (fun _ _ _ _ _ z => Py.cx_none z)
    intro w mg fa h Y G hmg0
    obtain ⟨K, KX, c, m, xq⟩ := Y
    have hmg : mg ("law" : PySem.Str) = some (.ref fa) := by
      have e : (HandSHeadRun.topDef (OpenLaw.row PySem.Challenge.rw_onlycarries_k68_faults_of_texts_read).prog 64).name = ("law" : PySem.Str) := by kernel_rfl
      rw [← e]
      exact hmg0
    have YY : Py.Fs (PySem.Challenge.rw_onlycarries_k68_faults_of_texts_read).prog w K mg := ⟨⟨c, m, h, KX, G⟩, xq, by kernel_rfl, by kernel_rfl⟩
    have e2 := hmg.symm.trans (YY.glo 57)
    cases e2
    obtain ⟨fd, hb, hF⟩ := Py.law_is (P := (PySem.Challenge.rw_onlycarries_k68_faults_of_texts_read).prog) YY
    exact ⟨K, fd, _, KX, hb, fun H a ns hl _ hS => Py.sp_lawA YY.noL (Py.U.law_true ns hl) hS, fun base _ _ => hF base⟩
