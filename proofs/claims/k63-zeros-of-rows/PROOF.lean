import PyProof.Rows.All
import Wide.All
import OpenK.AllK
import Wide.FinOn
import HandS.ForMost
import HandS.WideBits
import KE.BitLaws
import HandS.Exc
import HandS.TryOnly
import HandS.ExcOwn
import HandS.WordsExc
import HandS.WordsList
import HandS.IsInst
import HandS.ExcCtx
import HandS.Hot
import HandS.HotCalls
import HandS.ExcIs
import HandS.ExcField
import HandS.Defaults
import HandS.Flow
import HandS.Style
import HandS.TupAny
import HandS.HeadHook1
import HandS.HeadHook2
import HandS.Dict
import KE.KeyNested
import HandS.Small
import HandS.WordsDict
import KE.KDictKeyed
import PyProof.Rows.SeqRoads
import HandS.CallSlots
import KE.GoesEnum
import HandS.HeadEnd
import HandS.HeadHook3
import HandS.Head3
import HandS.Zip
import HandS.ExcInit
import HandS.Nested
import KE.KExcSuper
import KE.KExcIs
import HandS.TupMul
import HandS.Conv
import HandS.Star
import KE.KDictDisplayH
import OpenK.KOps
import KE.KDictWalk
import KE.KDictZip
import KE.GoesMore
import KE.KStar
import HandS.ExcValue
import HandS.SlotsOwn
import KE.SortData
import HandS.Head0
import HandS.Head1
import HandS.Head2
import PySem.Challenge.RW_onlycarries_k63_zeros_of_rows
set_option Elab.async false
set_option linter.all false
set_option maxRecDepth 100000
set_option maxHeartbeats 0
/-! Plain data of a small Python, and what its expressions, statements and defs compute: total Lean functions, no program in sight. -/
namespace Py
open PySem L2
inductive D where
  | non | bl (b : Bool) | int (i : Int) | str (s : String)
  | tup (xs : List D) | lst (xs : List D) | dic (t : Bool) (kvs : List (D × D)) | ins (c : String) (fs : List (String × D)) | drw (q : Bool ⊕ (Nat × List Int))
  deriving Inhabited
/-- what code computes; pick n k: some number i up to n is drawn -/
inductive Res (α : Type) where
  | ok (a : α) | exc (c : String) (fs : List (String × D)) | stuck | pick (n : Nat) (k : Nat → Res α)
def Res.bindR {α β : Type} (f : α → Res β) : Res α → Res β
  | .ok a => f a | .exc c fs => .exc c fs | .stuck => .stuck | .pick n k => .pick n fun i => Res.bindR f (k i)
@[reducible] def Res.bind {α β : Type} (r : Res α) (f : α → Res β) : Res β := match r with
  | .ok a => f a | .exc c fs => .exc c fs | .stuck => .stuck | .pick n k => .pick n fun i => Res.bindR f (k i)
instance : Monad Res := { pure := Res.ok, bind := Res.bind }
@[simp] theorem bind_ok {α β : Type} (a : α) (f : α → Res β) : (Res.ok a >>= f) = f a := rfl
@[simp] theorem bind_exc {α β : Type} (c : String) (fs) (f : α → Res β) : ((Res.exc c fs : Res α) >>= f) = .exc c fs := rfl
@[simp] theorem bind_stuck {α β : Type} (f : α → Res β) : ((Res.stuck : Res α) >>= f) = .stuck := rfl
theorem bindR_eq {α β : Type} (f : α → Res β) (r : Res α) : Res.bindR f r = (r >>= f) := by cases r <;> rfl
@[simp] theorem bind_pick {α β : Type} (n : Nat) (k : Nat → Res α) (f : α → Res β) : (Res.pick n k >>= f) = .pick n fun i => k i >>= f := by
  show Res.pick n (fun i => Res.bindR f (k i)) = _
  congr 1
  funext i
  exact bindR_eq f (k i)
@[simp] theorem pure_ok {α : Type} (a : α) : (pure a : Res α) = .ok a := rfl
def noexc {α : Type} : Res α → Res α
  | .ok a => .ok a | .exc _ _ => .stuck | .stuck => .stuck | .pick n k => .pick n fun i => noexc (k i)
@[simp] theorem noexc_ok {α : Type} (a : α) : noexc (.ok a : Res α) = .ok a := rfl
@[simp] theorem noexc_pick {α : Type} (n : Nat) (k : Nat → Res α) : noexc (.pick n k) = .pick n fun i => noexc (k i) := rfl
/-- what is done of an error -/
def Res.catch_ {α : Type} (h : String → List (String × D) → Res α) : Res α → Res α
  | .ok a => .ok a | .exc c fs => h c fs | .stuck => .stuck | .pick n k => .pick n fun i => Res.catch_ h (k i)
@[simp] theorem catch_ok {α : Type} (h : String → List (String × D) → Res α) (a : α) : Res.catch_ h (.ok a) = .ok a := rfl
@[simp] theorem catch_exc {α : Type} (h : String → List (String × D) → Res α) (c : String) (fs) : Res.catch_ h (.exc c fs) = h c fs := rfl
@[simp] theorem catch_stuck {α : Type} (h : String → List (String × D) → Res α) : Res.catch_ h (.stuck : Res α) = .stuck := rfl
@[simp] theorem catch_pick {α : Type} (h : String → List (String × D) → Res α) (n : Nat) (k : Nat → Res α) : Res.catch_ h (.pick n k) = .pick n fun i => Res.catch_ h (k i) := rfl
def SZ : Nat := 16777216
abbrev Env := List (Option D)
abbrev EM := Env → Res D
abbrev TM := Env → Res Bool
abbrev AM := Env → Res (List D)
inductive Fl where
  | next (e : Env) | ret (d : D) | brk (e : Env) | cnt (e : Env)
abbrev SM := Env → Res Fl
/-! ### data -/
def chk (n : Nat) (d : D) : Res D := if n ≤ SZ then .ok d else .stuck
theorem chk_ok {n : Nat} {d : D} (h : n ≤ SZ) : chk n d = .ok d := if_pos h
/-- no dict or instance within, at most n deep: == walks it -/
def pl : Nat → D → Bool
  | _, .non => true
  | _, .bl _ => true
  | _, .int _ => true
  | _, .str _ => true
  | n + 1, .tup xs => xs.all (pl n)
  | n + 1, .lst xs => xs.all (pl n)
  | _, _ => false
def plain (d : D) : Bool := pl 64 d
/-- no object but a text -/
def flatD : D → Bool
  | .non => true
  | .bl _ => true
  | .int _ => true
  | .str _ => true
  | _ => false
def b2i (b : Bool) : Int := if b then 1 else 0
/-- == of plain data -/
def eqv : D → D → Bool
  | .non, .non => true
  | .bl a, .bl b => a == b
  | .bl a, .int j => b2i a == j
  | .int i, .bl b => i == b2i b
  | .int i, .int j => i == j
  | .str a, .str b => a == b
  | .tup xs, .tup ys => eqvL xs ys
  | .lst xs, .lst ys => eqvL xs ys
  | _, _ => false
where eqvL : List D → List D → Bool
  | [], [] => true
  | x :: xs, y :: ys => eqv x y && eqvL xs ys
  | _, _ => false
inductive Ty where
  | non | bl | int | str | tup | lst | dic | cls (c : String)
  deriving DecidableEq
def isI (t : Ty) : D → Bool
  | .non => decide (t = .non)
  | .bl _ => decide (t = .bl) || decide (t = .int)
  | .int _ => decide (t = .int)
  | .str _ => decide (t = .str)
  | .tup _ => decide (t = .tup)
  | .lst _ => decide (t = .lst)
  | .dic _ _ => decide (t = .dic)
  | .ins c _ => decide (t = .cls c)
  | .drw _ => decide (t = .dic)
/-! ### operators -/
def oadd : D → D → Res D
  | .int i, .int j => .ok (.int (i + j))
  | .str a, .str b => if a.length + b.length ≤ SZ then .ok (.str (a ++ b)) else .stuck
  | .tup a, .tup b => if a.length + b.length ≤ SZ then .ok (.tup (a ++ b)) else .stuck
  | .lst a, .lst b => if a.length + b.length ≤ SZ then .ok (.lst (a ++ b)) else .stuck
  | _, _ => .stuck
def osub : D → D → Res D
  | .int i, .int j => .ok (.int (i - j))
  | _, _ => .stuck
def B64 : Nat := 18446744073709551616
def omul : D → D → Res D
  | .int i, .int j => if i.natAbs < B64 ∨ j.natAbs < B64 then .ok (.int (i * j)) else .stuck
  | _, _ => .stuck
/-- a list so many times -/
def olrep : D → D → Res D
  | .lst xs, .int k => if xs.length ≤ 1000 ∧ k.natAbs ≤ 10000 then .ok (.lst (List.replicate k.toNat xs).flatten) else .stuck
  | _, _ => .stuck
def ofdiv : D → D → Res D
  | .int i, .int j => if 0 < j ∧ j < 1073741824 then .ok (.int (i / j)) else .stuck
  | _, _ => .stuck
def omod : D → D → Res D
  | .int i, .int j => if 0 < j then .ok (.int (i % j)) else .stuck
  | _, _ => .stuck
def opow : D → D → Res D
  | .int i, .int j => if 0 ≤ j ∧ j ≤ 1000000 ∧ i.natAbs < 18446744073709551616 then .ok (.int (i ^ j.toNat)) else .stuck
  | _, _ => .stuck
def oshl : D → D → Res D
  | .int i, .int j => if 0 ≤ j ∧ (Builtin.Int.intBits i : Int) + j ≤ 134217728 then .ok (.int (i * 2 ^ j.toNat)) else .stuck
  | _, _ => .stuck
def oshr : D → D → Res D
  | .int i, .int j => if 0 ≤ j then .ok (.int (i / 2 ^ j.toNat)) else .stuck
  | _, _ => .stuck
def oand : D → D → Res D
  | .int i, .int j => .ok (.int (Builtin.bitAnd i j))
  | _, _ => .stuck
def oor : D → D → Res D
  | .int i, .int j => .ok (.int (Builtin.bitOr i j))
  | _, _ => .stuck
def oxor : D → D → Res D
  | .int i, .int j => .ok (.int (Builtin.bitXor i j))
  | _, _ => .stuck
def oneg : D → Res D
  | .int i => .ok (.int (-i))
  | _ => .stuck
def oinv : D → Res D
  | .int i => .ok (.int (Builtin.bitNot i))
  | _ => .stuck
def opt : Option D → Res D
  | some d => .ok d
  | none => .stuck
def tyOf : D → Ty
  | .non => .non | .bl _ => .bl | .int _ => .int | .str _ => .str | .tup _ => .tup | .lst _ => .lst | .dic _ _ => .dic | .ins c _ => .cls c | .drw _ => .dic
/-- an instance's class is among these, so is a class that is asked for -/
def inCs (cs : List String) : Ty → Bool
  | .cls c => cs.contains c
  | .dic => false
  | _ => true
def oisi (cs : List String) (ts : List Ty) (d : D) : Res D := if inCs cs (tyOf d) && ts.all (fun t => inCs cs t && decide (t ≠ .non)) then .ok (.bl (ts.any fun t => isI t d)) else .stuck
def oattr (cs : List String) (f : String) : D → Res D
  | .ins c fs => if cs.contains c then opt (fs.lookup f) else .stuck
  | _ => .stuck
def oior : D → D → Res D
  | .int i, .int j => .ok (.int (Builtin.bitOr i j))
  | _, _ => .stuck
def olt : D → D → Res D
  | .int i, .int j => .ok (.bl (decide (i < j)))
  | _, _ => .stuck
def ole : D → D → Res D
  | .int i, .int j => .ok (.bl (decide (i ≤ j)))
  | _, _ => .stuck
def ogt : D → D → Res D
  | .int i, .int j => .ok (.bl (decide (j < i)))
  | _, _ => .stuck
def oge : D → D → Res D
  | .int i, .int j => .ok (.bl (decide (j ≤ i)))
  | _, _ => .stuck
def oeq (x y : D) : Res D := if plain x && plain y then .ok (.bl (eqv x y)) else .stuck
def one (x y : D) : Res D := if plain x && plain y then .ok (.bl (!eqv x y)) else .stuck
/-- x in ys -/
def mem (x : D) : List D → Bool
  | [] => false
  | y :: r => eqv y x || mem x r
/-- numbers, None and tuples of such, at most n deep -/
def hk : Nat → D → Bool
  | _, .non => true
  | _, .bl _ => true
  | _, .int _ => true
  | n + 1, .tup xs => xs.all (hk n)
  | _, _ => false
/-- a key of a dict; t: its keys are tuples -/
def keyOk : Bool → D → Bool
  | false, .int _ => true
  | false, .str _ => true
  | true, .tup xs => hk 8 (.tup xs)
  | _, _ => false
def find (k : D) : List (D × D) → Option D
  | [] => none
  | (a, v) :: r => if eqv a k then some v else find k r
/-- d[k] = v -/
def putD (k v : D) : List (D × D) → List (D × D)
  | [] => [(k, v)]
  | (a, x) :: r => if eqv a k then (a, v) :: r else (a, x) :: putD k v r
def oin : D → D → Res D
  | x, .lst ys => if flatD x && ys.all flatD then .ok (.bl (mem x ys)) else .stuck
  | x, .tup ys => if flatD x && ys.all flatD then .ok (.bl (mem x ys)) else .stuck
  | x, .dic t kvs => if keyOk t x then .ok (.bl (find x kvs).isSome) else .stuck
  | _, _ => .stuck
def onotin : D → D → Res D
  | x, .lst ys => if flatD x && ys.all flatD then .ok (.bl (!mem x ys)) else .stuck
  | x, .tup ys => if flatD x && ys.all flatD then .ok (.bl (!mem x ys)) else .stuck
  | x, .dic t kvs => if keyOk t x then .ok (.bl (!(find x kvs).isSome)) else .stuck
  | _, _ => .stuck
def isNon : D → Bool
  | .non => true
  | _ => false
def oisN (x : D) : Res D := .ok (.bl (isNon x))
def truthy : D → Res Bool
  | .non => .ok false
  | .bl b => .ok b
  | .int i => .ok (i != 0)
  | .str s => if s.length ≤ SZ then .ok (s.length != 0) else .stuck
  | .tup xs => .ok (!xs.isEmpty)
  | .lst xs => .ok (!xs.isEmpty)
  | _ => .stuck
def onb : D → Res D
  | .bl k => .ok (.bl (!k))
  | _ => .stuck
/-! ### subscripts -/
def oidx : D → D → Res D
  | .lst xs, .int i => opt (atI xs i)
  | .tup xs, .int i => opt (atI xs i)
  | .str s, .int i => if s.length ≤ SZ then opt ((atI s.toList i).map fun c => .str (String.ofList [c])) else .stuck
  | .dic t kvs, k => if keyOk t k then opt (find k kvs) else .stuck
  | _, _ => .stuck
/-- the items from lo up to hi -/
def cut {α : Type} (xs : List α) (lo hi : Option Int) : List α := (xs.drop (HT.sIx xs.length 0 lo)).take (HT.sIx xs.length xs.length hi - HT.sIx xs.length 0 lo)
def oslc : D → Option Int → Option Int → Res D
  | .lst xs, lo, hi => .ok (.lst (cut xs lo hi))
  | .tup xs, lo, hi => .ok (.tup (cut xs lo hi))
  | .str s, lo, hi => if s.length ≤ SZ then .ok (.str (String.ofList (cut s.toList lo hi))) else .stuck
  | _, _, _ => .stuck
/-! ### a table of the module: texts to numbers -/
def onothas (tab : List (String × Int)) : D → Res D
  | .str s => .ok (.bl (!(tab.lookup s).isSome))
  | _ => .stuck
def olook (tab : List (String × Int)) : D → Res D
  | .str s => opt ((tab.lookup s).map D.int)
  | _ => .stuck
/-! ### built-in calls -/
def blen : D → Res D
  | .lst xs => .ok (.int xs.length)
  | .tup xs => .ok (.int xs.length)
  | .str s => if s.length ≤ SZ then .ok (.int s.length) else .stuck
  | .dic _ kvs => .ok (.int kvs.length)
  | _ => .stuck
def bint : D → Res D
  | .int i => .ok (.int i)
  | .bl b => .ok (.int (b2i b))
  | _ => .stuck
def btuple : D → Res D
  | .lst xs => .ok (.tup xs)
  | .tup xs => .ok (.tup xs)
  | _ => .stuck
def blist : D → Res D
  | .lst xs => .ok (.lst xs)
  | .tup xs => .ok (.lst xs)
  | _ => .stuck
def intsOf : List D → Option (List Int)
  | [] => some []
  | .int i :: r => (intsOf r).map (i :: ·)
  | _ :: _ => none
def boolsOf : List D → Option (List Bool)
  | [] => some []
  | .bl i :: r => (boolsOf r).map (i :: ·)
  | _ :: _ => none
def bsum : D → Res D
  | .lst xs => match intsOf xs with | some is => .ok (.int is.sum) | none => .stuck
  | _ => .stuck
def ball : D → Res D
  | .lst xs => match boolsOf xs with | some bs => .ok (.bl (bs.all id)) | none => .stuck
  | _ => .stuck
def bany : D → Res D
  | .lst xs => match boolsOf xs with | some bs => .ok (.bl (bs.any id)) | none => .stuck
  | _ => .stuck
def bmin2 : D → D → Res D
  | .int i, .int j => .ok (.int (if j < i then j else i))
  | _, _ => .stuck
/-! ### expressions -/
def var (i : Nat) : EM := fun e => match e[i]? with | some (some d) => .ok d | _ => .stuck
def cst (d : D) : EM := fun _ => .ok d
def un (f : D → Res D) (a : EM) : EM := fun e => a e >>= f
def bin (f : D → D → Res D) (a b : EM) : EM := fun e => a e >>= fun x => b e >>= fun y => f x y
def argN : AM := fun _ => .ok []
def argC (a : EM) (r : AM) : AM := fun e => a e >>= fun x => r e >>= fun xs => .ok (x :: xs)
def tupE (a : AM) : EM := fun e => a e >>= fun xs => chk xs.length (.tup xs)
def lstE (a : AM) : EM := fun e => a e >>= fun xs => chk xs.length (.lst xs)
/-- {} and {k: v} -/
def dic0 (t : Bool) : EM := fun _ => .ok (.dic t [])
def dic1 (t : Bool) (a b : EM) : EM := fun e => a e >>= fun k => b e >>= fun v => if keyOk t k then .ok (.dic t [(k, v)]) else .stuck
/-- x and y, x or y as values, x a truth -/
def andE (a b : EM) : EM := fun e => a e >>= fun x => match x with | .bl true => b e | .bl false => .ok (.bl false) | _ => .stuck
def orE (a b : EM) : EM := fun e => a e >>= fun x => match x with | .bl false => b e | .bl true => .ok (.bl true) | _ => .stuck
/-- a < b < c -/
def chain (f g : D → D → Res D) (a b c : EM) : EM := fun e => a e >>= fun x => b e >>= fun y => f x y >>= fun z => match z with
  | .bl true => c e >>= fun u => g y u
  | .bl false => .ok (.bl false)
  | _ => .stuck
def tst (a : EM) : TM := fun e => a e >>= truthy
def andT (a b : TM) : TM := fun e => a e >>= fun x => if x then b e else .ok false
def orT (a b : TM) : TM := fun e => a e >>= fun x => if x then .ok true else b e
def notT (a : TM) : TM := fun e => a e >>= fun x => .ok (!x)
def ifE (t : TM) (a b : EM) : EM := fun e => t e >>= fun x => if x then a e else b e
def slc (a : EM) (lo hi : Option EM) : EM := fun e => a e >>= fun x => bnd lo e >>= fun i => bnd hi e >>= fun j => oslc x i j
where bnd : Option EM → Env → Res (Option Int)
  | none, _ => .ok none
  | some m, e => m e >>= fun d => match d with | .int i => .ok (some i) | _ => .stuck
def call (f : List D → Res D) (a : AM) : EM := fun e => a e >>= f
/-! what is walked -/
abbrev IM := Env → Res (List D)
def iseq (a : EM) : IM := fun e => a e >>= fun x => match x with | .lst xs => .ok xs | .tup xs => .ok xs | _ => .stuck
def B62 : Nat := 4611686018427387904
def rngL (lo hi : Int) : List D := (List.range (hi - lo).toNat).map fun i => .int (lo + (i : Nat))
def irng1 (a : EM) : IM := fun e => a e >>= fun x => match x with
  | .int n => if n.natAbs < B62 then .ok (rngL 0 n) else .stuck
  | _ => .stuck
def irng2 (a b : EM) : IM := fun e => a e >>= fun x => b e >>= fun y => match x, y with
  | .int m, .int n => if m.natAbs < B62 ∧ n.natAbs < B62 then .ok (rngL m n) else .stuck
  | _, _ => .stuck
def enumL (n : Nat) : List D → List D
  | [] => []
  | d :: r => .tup [.int n, d] :: enumL (n + 1) r
def ienum (a : EM) : IM := fun e => iseq a e >>= fun xs => .ok (enumL 0 xs)
def seqOf : D → Option (Bool × List D)
  | .lst xs => some (false, xs)
  | .tup xs => some (true, xs)
  | _ => none
/-- range(a, b, c), c above 0 -/
def cnt3 (lo hi c : Int) : Nat := if 0 < c then ((hi - lo + c - 1) / c).toNat else (lo - hi).toNat
def rng3L (lo hi c : Int) : List D := (List.range (cnt3 lo hi c)).map fun i => .int (lo + (i : Nat) * c)
def irng3 (a b c : EM) : IM := fun e => a e >>= fun x => b e >>= fun y => c e >>= fun z => match x, y, z with
  | .int m, .int n, .int k => if m.natAbs < B62 ∧ n.natAbs < B62 ∧ (0 < k ∨ k = -1) ∧ k.natAbs < 1073741824 then .ok (rng3L m n k) else .stuck
  | _, _, _ => .stuck
/-- list(zip(*a)) -/
def seqsOf : List D → Option (List (List D))
  | [] => some []
  | d :: r => match seqOf d, seqsOf r with | some (_, xs), some xss => some (xs :: xss) | _, _ => none
def zipAll (xss : List (List D)) : List D := (List.range (xss.headD []).length).map fun i => .tup (xss.map fun xs => xs.getD i .non)
def lzipE (a : EM) : EM := fun e => a e >>= fun x => match seqOf x with
  | some (_, ds) => match seqsOf ds with
    | some xss => if 1 ≤ xss.length ∧ xss.length ≤ 1000 ∧ (xss.headD []).length ≤ 1000000 ∧ ∀ xs ∈ xss, xs.length = (xss.headD []).length then .ok (.lst (zipAll xss)) else .stuck
    | none => .stuck
  | none => .stuck
/-! targets -/
def lift {α : Type} : Option α → Res α
  | some a => .ok a
  | none => .stuck
@[simp] theorem lift_some {α : Type} (a : α) : lift (some a) = .ok a := rfl
@[simp] theorem lift_none {α : Type} : lift (none : Option α) = .stuck := rfl
abbrev GM := D → Env → Option Env
def gnm (i : Nat) : GM := fun d e => some (e.set i (some d))
def gtupL : List GM → List D → Env → Option Env
  | [], [], e => some e
  | g :: gs, d :: ds, e => (g d e).bind (gtupL gs ds)
  | _, _, _ => none
def gtup (gs : List GM) : GM := fun d e => match d with | .tup xs => gtupL gs xs e | _ => none
/-! comprehensions -/
def wipe (e : Env) : List Nat → Env
  | [] => e
  | i :: r => (wipe e r).set i none
def compL (f : D → Res (Option D)) : List D → Res (List D)
  | [] => .ok []
  | x :: xs => f x >>= fun o => compL f xs >>= fun ys => .ok (match o with | some y => y :: ys | none => ys)
def yes : TM := fun _ => .ok true
def compF (vs : List Nat) (g : GM) (t : TM) (elt : EM) (e : Env) (x : D) : Res (Option D) :=
  lift (g x (wipe e vs)) >>= fun e1 => t e1 >>= fun b => if b then elt e1 >>= fun y => .ok (some y) else .ok none
def lcE (it : IM) (vs : List Nat) (g : GM) (t : TM) (elt : EM) : EM := fun e => it e >>= fun xs =>
  noexc (compL (compF vs g t elt e) xs) >>= fun ys => chk xs.length (.lst ys)
/-! ### statements -/
def seq (a b : SM) : SM := fun e => a e >>= fun f => match f with | .next e' => b e' | r => .ok r
def skip : SM := fun e => .ok (.next e)
def asg (g : GM) (m : EM) : SM := fun e => m e >>= fun d => lift (g d e) >>= fun e' => .ok (.next e')
def aug (i : Nat) (f : D → D → Res D) (m : EM) : SM := fun e => var i e >>= fun x => m e >>= fun y => f x y >>= fun z => .ok (.next (e.set i (some z)))
def drop (m : EM) : SM := fun e => m e >>= fun _ => .ok (.next e)
def ret (m : EM) : SM := fun e => m e >>= fun d => .ok (.ret d)
def retN : SM := fun _ => .ok (.ret .non)
def ite (t : TM) (a b : SM) : SM := fun e => t e >>= fun x => if x then a e else b e
def brk : SM := fun e => .ok (.brk e)
def cnt : SM := fun e => .ok (.cnt e)
def forL (body : D → Env → Res Fl) : List D → Env → Res Fl
  | [], e => .ok (.next e)
  | x :: xs, e => body x e >>= fun fl => match fl with
    | .next e' => forL body xs e'
    | .cnt e' => forL body xs e'
    | .brk e' => .ok (.next e')
    | .ret d => .ok (.ret d)
def forB (g : GM) (body : SM) (x : D) (e : Env) : Res Fl := lift (g x e) >>= body
def for_ (it : IM) (g : GM) (body : SM) : SM := fun e => it e >>= fun xs => forL (forB g body) xs e
def FUEL : Nat := 1000000000000
def whileL (t : TM) (body : SM) : Nat → Env → Res Fl
  | 0, _ => .stuck
  | n + 1, e => t e >>= fun b => if b then (body e >>= fun fl => match fl with
      | .next e' => whileL t body n e'
      | .cnt e' => whileL t body n e'
      | .brk e' => .ok (.next e')
      | .ret d => .ok (.ret d)) else .ok (.next e)
def while_ (t : TM) (body : SM) : SM := whileL t body FUEL
/-- a name's own list grows -/
def app (i : Nat) (m : EM) : SM := fun e => var i e >>= fun l => match l with
  | .lst xs => m e >>= fun d => if xs.length < SZ then .ok (.next (e.set i (some (.lst (xs ++ [d]))))) else .stuck
  | _ => .stuck
/-- xs[j] = v of a name's own list or dict -/
def setL (i : Nat) (j m : EM) : SM := fun e => var i e >>= fun l => match l with
  | .lst xs => m e >>= fun d => j e >>= fun k => match k with
    | .int z => match ixN xs.length z with
      | some n => .ok (.next (e.set i (some (.lst (xs.set n d)))))
      | none => .stuck
    | _ => .stuck
  | .dic t kvs => m e >>= fun d => j e >>= fun k => if keyOk t k && decide (kvs.length < SZ) then .ok (.next (e.set i (some (.dic t (putD k d kvs))))) else .stuck
  | _ => .stuck
/-- x.extend(y) of a name's own list -/
def ext (i : Nat) (m : EM) : SM := fun e => var i e >>= fun l => match l with
  | .lst xs => m e >>= fun d => match d with
    | .lst ys => if xs.length + ys.length ≤ SZ then .ok (.next (e.set i (some (.lst (xs ++ ys))))) else .stuck
    | _ => .stuck
  | _ => .stuck
def putF (f : String) (d : D) : List (String × D) → List (String × D)
  | [] => [(f, d)]
  | (g, x) :: r => if g = f then (f, d) :: r else (g, x) :: putF f d r
/-- self.f = v in an __init__ -/
def setF (i : Nat) (cs : List String) (f : String) (m : EM) : SM := fun e => var i e >>= fun o => match o with
  | .ins c fs => if cs.contains c ∧ fs.length < 1000 then m e >>= fun d => .ok (.next (e.set i (some (.ins c (putF f d fs))))) else .stuck
  | _ => .stuck
/-- raise C(..) -/
def rais (c : String) (ns : List String) (a : AM) : SM := fun e => a e >>= fun ds => if ds.length = ns.length then .exc c (ns.zip ds).reverse else .stuck
def thru (m : SM) : SM := fun e => noexc (m e)
/-! ### errors that are caught -/
/-- try: b, except ..: what is done with the error's class and fields; i: the name's slot -/
def sufE (i : Nat) (fl : Fl) : Res Fl := match fl with
  | .next e' => .ok (.next (e'.set i none))
  | .ret d => .ok (.ret d)
  | _ => .stuck
/-- try: b, except x as ..: other errors pass -/
def tryX (x : String) (es : List String) (i : Nat) (b : SM) (h : String → List (String × D) → SM) : SM := fun e => Res.catch_ (fun c fs => if es.contains c && decide (i < e.length) then (if c = x then noexc (h c fs (e.set i none)) >>= sufE i else .exc c fs) else .stuck) (b e)
def xisa (c : String) (ts : List String) : Bool := ts.any fun t => c == t || (t == "CarryError" || t == "ValueError")
/-- isinstance(e, (..)) of the caught error -/
def xis (es all : List String) (c : String) (ts : List String) : EM := fun _ => if es.contains c && ts.all all.contains then .ok (.bl (xisa c ts)) else .stuck
/-- e.f -/
def xfld (es fl : List String) (c f : String) (fs : List (String × D)) : EM := fun _ => if es.contains c && fl.contains f then opt (fs.lookup f) else .stuck
/-! ### defs -/
def doneF (fl : Fl) : Res D := match fl with
  | .next _ => .ok .non
  | .ret d => .ok d
  | .brk _ => .stuck
  | .cnt _ => .stuck
def done (r : Res Fl) : Res D := r >>= doneF
/-- a def of p parameters and n names -/
def fn (p n : Nat) (body : SM) (ds : List D) : Res D := if ds.length = p then done (body (ds.map some ++ List.replicate (n - p) none)) else .stuck
def madeF (cls : String) (fl : Fl) : Res D := match fl with
  | .next (some (.ins c fs) :: _) => .ok (.ins c fs)
  | _ => .stuck
def made (p n : Nat) (cls : String) (body : SM) (ds : List D) : Res D := if ds.length + 1 = p then
  body ((some (.ins cls []) :: ds.map some) ++ List.replicate (n - p) none) >>= madeF cls else .stuck
end Py
namespace Py
open PySem PySem.Spec PyProof.Rows L2
open He (Fa DefD Tab FnW)
open He
abbrev Frag := PySem.W.Frag
def ca (K : Frag) (c : String) : Addr := He.ga K (Str.ofString c)
def tyNames : List String := ["NoneType", "bool", "int", "str", "tuple", "list", "dict"]
def kitB (K : Frag) (cs : List String) : Bool :=
  cs.all fun c => (He.Fa.cls (Str.ofString c)).ok K
    && (decide (PySem.W.findIn K (.ref (ca K c)) "__class__" = some (some (.builtin "object.__class__")))
    && (decide (PySem.W.specialIn K (.builtin "object.__class__") "__get__" = some (some (.builtin "getset_descriptor.__get__")))
    && (decide (PySem.W.takesIn K (.builtin "object.__class__") = some true)
    && (decide (PySem.W.mroIn K (ca K c) (.type "object") = some true)
    && (cs.all (fun d => decide (PySem.W.kitOne K (.ref (ca K c)) (.ref (ca K d)) = some (decide (c = d))))
    && tyNames.all fun T => decide (PySem.W.kitOne K (.ref (ca K c)) (.type T) = some false) && decide (PySem.W.kitOne K (.type T) (.ref (ca K c)) = some false))))))
def notList (o : Obj) : Bool := match o.cls with
  | .type c => !(decide (c = "list"))
  | _ => true
def noL (K : Frag) : Bool := K.all fun q => notList q.2
def attB (cs : List String) (f : String) (K : Frag) : Bool := cs.all fun c => (Fa.cls (Str.ofString c)).ok K && (Fa.noat (Str.ofString c) (Str.ofString f)).ok K
def kitC (cs : List String) (K : Frag) : Bool := kitB K cs
def tabB (x : String) (tab : List (String × Int)) (K : Frag) : Bool := He.valsB K (He.ga K (Str.ofString x)) (tab.map fun q => (Str.ofString q.1, He.Dv.int q.2))
def tabT (x : String) (tab : List (String × Int)) : Tab := (fun K => He.ga K (Str.ofString x), tab.map fun q => Str.ofString q.1)
def dvOf : D → Option He.Dv
  | .non => some .non
  | .bl b => some (.bl b)
  | .int i => some (.int i)
  | .str s => some (.str (Str.ofString s))
  | _ => none
def dvsOf : List D → List He.Dv
  | [] => []
  | d :: r => (dvOf d).getD .non :: dvsOf r
def tupC (x : String) (ds : List D) (K : Frag) : Bool := He.tupB K (Str.ofString x) (dvsOf ds)
def fnWx (K : Frag) (p : Str × Option Str) : FnW := match K.lookup (He.fAd K p) with
  | some ⟨_, _, .func fd, _⟩ => some (fd.name, fd.qualname, fd.params, fd.body, fd.scope, fd.globals, [], fd.builtins)
  | _ => none
def cloB (file : Str) (c : String) (q : Str) (K : Frag) : Bool := match K.lookup (He.ma K (ca K c) "__init__") with
  | some ⟨_, _, .func fd, _⟩ => (match fd.code, fd.closure with
    | .ref cda, [(y, cc)] => decide (y = ("__class__" : Str)) && (decide (fd.defaults = .none) && (PySem.W.codeIn K (.ref cda) q &&
      ((match K.lookup cc with | some ⟨_, _, .cell (some (.ref D)), _⟩ => decide (D = ca K c) | _ => false) &&
        (match K.lookup cda with | some ⟨_, _, .fields vs, _⟩ => (match (vs[2]? : Option Value) with | some (.str z _) => decide (z = file) | _ => false) | _ => false))))
    | _, _ => false)
  | _ => false
def oexB (c : String) (K : Frag) : Bool := match K.lookup (ca K c) with
  | some ⟨.type "type", _, .cls cd, sl⟩ => (match cd.mro, sl.toList with
    | .ref C' :: bm, [_, _, _, _, some (.builtin n), _] => decide (C' = ca K c) && (decide (n = "ValueError.__new__") && (cd.hasDict && (!cd.hasDel && PySem.HandSPX.refsVE bm)))
    | _, _ => false)
  | _ => false
def errB (file : Str) (c : String) (q : Str) (fs : List String) (K : Frag) : Bool := cloB file c q K && (oexB c K &&
  (decide (PySem.W.findIn K (.ref (ca K c)) "__setattr__" = some (some (.builtin "object.__setattr__"))) && (decide (PySem.W.subIn K (.ref (ca K c)) (.type "BaseException") = some true) &&
  (decide (PySem.W.typeIn K (.ref (ca K c)) = some (.type "type")) && (PySem.W.keepIn K (.ref (ca K c)) &&
  (decide (PySem.W.ks_superIn K (ca K c) (ca K c) "__init__" = some (some (.builtin "ValueError.__init__"))) && (decide (PySem.W.subIn K (.ref (ca K c)) (.type "ValueError") = some true) &&
  (decide (PySem.W.mroIn K (ca K c) (.ref (ca K c)) = some true) && (decide (PySem.W.nsIn K cStatics "thirdparty.any" = some none) &&
  (decide (PySem.W.findIn K (.ref (ca K c)) "__init__" = some (some (.ref (He.ma K (ca K c) "__init__")))) && (decide (PySem.W.typeIn K (.ref (He.ma K (ca K c) "__init__")) = some (.type "function")) &&
  fs.all fun f => decide (PySem.W.findIn K (.ref (ca K c)) (Str.ofString f) = some none))))))))))))
def xcU (K : Frag) (t : String) : Value := if t = "ValueError" then .type "ValueError" else .ref (ca K t)
def ersB (es all fl : List String) (K : Frag) : Bool := es.all fun c =>
  (PySem.W.clsIn K (ca K c)).isSome && (decide (PySem.W.findIn K (.ref (ca K c)) "__getattribute__" = some (some (.builtin "BaseException.__getattribute__"))) && (decide (PySem.W.findIn K (.ref (ca K c)) "__getattr__" = some none) &&
  (decide (PySem.W.subIn K (.ref (ca K c)) (.type "BaseException") = some true) && (decide (PySem.W.findIn K (.ref (ca K c)) "__class__" = some (some (.builtin "object.__class__"))) &&
  (decide (PySem.W.specialIn K (.builtin "object.__class__") "__get__" = some (some (.builtin "getset_descriptor.__get__"))) && (decide (PySem.W.takesIn K (.builtin "object.__class__") = some true) && (decide (PySem.W.mroIn K (ca K c) (.type "object") = some true) &&
  (PySem.W.hasDictIn K (ca K c) && (decide (PySem.W.exmOne K (.ref (ca K c)) (.ref (ca K "CarryError")) = some true) &&
  ((all.all fun t => decide (PySem.W.kitOne K (.ref (ca K c)) (xcU K t) = some (xisa c [t]))) && fl.all fun f => decide (PySem.W.findIn K (.ref (ca K c)) (Str.ofString f) = some none)))))))))))
def exB (es : List String) (x : String) (K : Frag) : Bool := es.all fun c => decide (PySem.W.exmOne K (.ref (ca K c)) (.ref (ca K x)) = some (decide (c = x)))
abbrev AlY : Type := AlT × Bool × List FnW
def obsY (more : Frag → Bool) (fa : List Fa) (fn xf : List DefD) (ts : List Tab) (K : Frag) : AlY := (obsT fa fn ts K, more K, xf.map fun d => fnWx K d.at_)
def valY (fn xf : List DefD) (ts : List Tab) (w : World) : AlY := (valT fn ts w, true, xf.map DefD.val)
def obsYG (n : Nat) (more : Frag → Bool) (fa : List Fa) (fn xf : List DefD) (ts : List Tab) (g : Addr → Option Obj) : AlY := obsY more fa fn xf ts (frG g (cStatics :: asD g n))
def hookY (n : Nat) (more : Frag → Bool) (fa : List Fa) (fn xf : List DefD) (ts : List Tab) : PySem.W.Hook where
  α := AlY
  obs := fun s => obsYG n more fa fn xf ts s.heap.get?
  val := fun w => valY fn xf ts w
  says := fun w h => ∃ K : PySem.W.Frag, K.In h ∧ SaysT fa fn ts w K ∧ more K = true ∧ (xf.map fun d => fnWx K d.at_) = xf.map DefD.val
  of := fun w s e => by
    have e1 : obsY more fa fn xf ts (frG s.heap.get? (cStatics :: asD s.heap.get? n)) = valY fn xf ts w := e
    unfold obsY valY at e1
    obtain ⟨e2, e3⟩ := Prod.mk.inj e1
    obtain ⟨e4, e5⟩ := Prod.mk.inj e3
    exact ⟨_, frG_in, e2, e4, e5⟩
  keeps := fun _ _ _ ⟨K, hK, c, m⟩ k => ⟨K, PySem.W.Frag.In.keeps hK k, c, m⟩
end Py
namespace Py
open PySem PySem.Spec PyProof.Rows L2
abbrev CS : List String := ["Row"]
abbrev ES : List String := ["InvalidNumber", "InvalidWords", "InvalidRow"]
abbrev EALL : List String := ["InvalidNumber", "InvalidWords", "InvalidRow", "CarryError", "ValueError"]
abbrev EFL : List String := ["part", "place", "value"]
def tab_SIZES : List (String × Int) := [("zero", 0), ("ones", 0), ("not", 1), ("and", 2), ("or", 2), ("xor", 2), ("shift", 1), ("minus", 1), ("add", 2), ("sub", 2)]
def tup_MARKED : List D := [.str "shift", .str "minus", .str "add", .str "sub", .str "count"]
def top (i : Nat) : Stmt := PySem.Challenge.pw_onlycarries_k63_zeros_of_rows.main.body.getD i (.Pass ⟨0, 0, 0, 0⟩)
abbrev st_as_tuple : Stmt := top 4
abbrev sc_as_tuple : Scope := defScope st_as_tuple
abbrev N_as_tuple : List Str := ["value"]
abbrev d_as_tuple : He.DefD := ⟨("as_tuple", none), "as_tuple", "as_tuple", defArgs st_as_tuple, defBody st_as_tuple, sc_as_tuple, [], []⟩
abbrev st_is_integer : Stmt := top 1
abbrev sc_is_integer : Scope := defScope st_is_integer
abbrev N_is_integer : List Str := ["value"]
abbrev d_is_integer : He.DefD := ⟨("is_integer", none), "is_integer", "is_integer", defArgs st_is_integer, defBody st_is_integer, sc_is_integer, [], []⟩
abbrev st_is_below : Stmt := top 5
abbrev sc_is_below : Scope := defScope st_is_below
abbrev N_is_below : List Str := ["value", "limit"]
abbrev d_is_below : He.DefD := ⟨("is_below", none), "is_below", "is_below", defArgs st_is_below, defBody st_is_below, sc_is_below, [], []⟩
abbrev st_are_values : Stmt := top 32
abbrev sc_are_values : Scope := defScope st_are_values
abbrev N_are_values : List Str := ["numbers", "many", "number"]
abbrev d_are_values : He.DefD := ⟨("are_values", none), "are_values", "are_values", defArgs st_are_values, defBody st_are_values, sc_are_values, [], []⟩
abbrev st_is_count_deed : Stmt := top 33
abbrev sc_is_count_deed : Scope := defScope st_is_count_deed
abbrev N_is_count_deed : List Str := ["value", "many", "modulus", "rest", "parts"]
abbrev d_is_count_deed : He.DefD := ⟨("is_count_deed", none), "is_count_deed", "is_count_deed", defArgs st_is_count_deed, defBody st_is_count_deed, sc_is_count_deed, [], []⟩
abbrev st_is_deed : Stmt := top 34
abbrev sc_is_deed : Scope := defScope st_is_deed
abbrev N_is_deed : List Str := ["value", "many"]
abbrev d_is_deed : He.DefD := ⟨("is_deed", none), "is_deed", "is_deed", defArgs st_is_deed, defBody st_is_deed, sc_is_deed, [], []⟩
abbrev st_is_inputs : Stmt := top 3
abbrev sc_is_inputs : Scope := defScope st_is_inputs
abbrev N_is_inputs : List Str := ["value"]
abbrev d_is_inputs : He.DefD := ⟨("is_inputs", none), "is_inputs", "is_inputs", defArgs st_is_inputs, defBody st_is_inputs, sc_is_inputs, [], []⟩
abbrev st_Row_init : Stmt := inClass (top 37) 0
abbrev sc_Row_init : Scope := defScope st_Row_init
abbrev N_Row_init : List Str := ["self", "inputs", "deeds", "out", "kept", "place", "deed"]
abbrev d_Row_init : He.DefD := ⟨("Row", some "__init__"), "__init__", "Row.__init__", defArgs st_Row_init, defBody st_Row_init, sc_Row_init, [], []⟩
abbrev st__law_first : Stmt := top 47
abbrev sc__law_first : Scope := defScope st__law_first
abbrev N__law_first : List Str := ["table", "width", "ends", "place", "last", "state", "reading", "leads", "lead"]
abbrev d__law_first : He.DefD := ⟨("_law_first", none), "_law_first", "_law_first", defArgs st__law_first, defBody st__law_first, sc__law_first, [], []⟩
abbrev st__law_whole : Stmt := top 49
abbrev sc__law_whole : Scope := defScope st__law_whole
abbrev N__law_whole : List Str := ["value"]
abbrev d__law_whole : He.DefD := ⟨("_law_whole", none), "_law_whole", "_law_whole", defArgs st__law_whole, defBody st__law_whole, sc__law_whole, [], []⟩
abbrev st__law_is_reading : Stmt := top 50
abbrev sc__law_is_reading : Scope := defScope st__law_is_reading
abbrev N__law_is_reading : List Str := ["answer", "due", "k"]
abbrev d__law_is_reading : He.DefD := ⟨("_law_is_reading", none), "_law_is_reading", "_law_is_reading", defArgs st__law_is_reading, defBody st__law_is_reading, sc__law_is_reading, [], []⟩
abbrev st__law_stays : Stmt := top 52
abbrev sc__law_stays : Scope := defScope st__law_stays
abbrev N__law_stays : List Str := ["row", "inputs", "deeds", "out"]
abbrev d__law_stays : He.DefD := ⟨("_law_stays", none), "_law_stays", "_law_stays", defArgs st__law_stays, defBody st__law_stays, sc__law_stays, [], []⟩
abbrev st__law_zeros : Stmt := top 46
abbrev sc__law_zeros : Scope := defScope st__law_zeros
abbrev N__law_zeros : List Str := ["table", "width", "now", "place", "then", "k", "letter", "state", "leads"]
abbrev d__law_zeros : He.DefD := ⟨("_law_zeros", none), "_law_zeros", "_law_zeros", defArgs st__law_zeros, defBody st__law_zeros, sc__law_zeros, [], []⟩
abbrev st_is_number : Stmt := top 2
abbrev sc_is_number : Scope := defScope st_is_number
abbrev N_is_number : List Str := ["value"]
abbrev d_is_number : He.DefD := ⟨("is_number", none), "is_number", "is_number", defArgs st_is_number, defBody st_is_number, sc_is_number, [], []⟩
abbrev st_mark_column : Stmt := top 22
abbrev sc_mark_column : Scope := defScope st_mark_column
abbrev N_mark_column : List Str := ["mark", "size", "at", "rest"]
abbrev d_mark_column : He.DefD := ⟨("mark_column", none), "mark_column", "mark_column", defArgs st_mark_column, defBody st_mark_column, sc_mark_column, [], []⟩
abbrev st_mark_deeds : Stmt := top 15
abbrev sc_mark_deeds : Scope := defScope st_mark_deeds
abbrev N_mark_deeds : List Str := ["row", "deed"]
abbrev d_mark_deeds : He.DefD := ⟨("mark_deeds", none), "mark_deeds", "mark_deeds", defArgs st_mark_deeds, defBody st_mark_deeds, sc_mark_deeds, [], []⟩
abbrev st_spread_mark : Stmt := top 17
abbrev sc_spread_mark : Scope := defScope st_spread_mark
abbrev N_spread_mark : List Str := ["many", "place", "mark", "block", "size", "lane", "at", "marks"]
abbrev d_spread_mark : He.DefD := ⟨("spread_mark", none), "spread_mark", "spread_mark", defArgs st_spread_mark, defBody st_spread_mark, sc_spread_mark, [], []⟩
abbrev st_held_lanes : Stmt := top 18
abbrev sc_held_lanes : Scope := defScope st_held_lanes
abbrev N_held_lanes : List Str := ["row", "many", "block", "size", "held", "place", "deed", "rest"]
abbrev d_held_lanes : He.DefD := ⟨("held_lanes", none), "held_lanes", "held_lanes", defArgs st_held_lanes, defBody st_held_lanes, sc_held_lanes, [], []⟩
abbrev st_carry_step : Stmt := top 19
abbrev sc_carry_step : Scope := defScope st_carry_step
abbrev N_carry_step : List Str := ["name", "one", "other", "mark"]
abbrev d_carry_step : He.DefD := ⟨("carry_step", none), "carry_step", "carry_step", defArgs st_carry_step, defBody st_carry_step, sc_carry_step, [], []⟩
abbrev st_turned_counts : Stmt := top 20
abbrev sc_turned_counts : Scope := defScope st_turned_counts
abbrev N_turned_counts : List Str := ["held", "parts", "turned", "part", "rest"]
abbrev d_turned_counts : He.DefD := ⟨("turned_counts", none), "turned_counts", "turned_counts", defArgs st_turned_counts, defBody st_turned_counts, sc_turned_counts, [], []⟩
abbrev st_run_deeds : Stmt := top 21
abbrev sc_run_deeds : Scope := defScope st_run_deeds
abbrev N_run_deeds : List Str := ["row", "begin", "held", "full", "lanes", "after", "deed", "name", "lane", "counts", "mark", "i"]
abbrev d_run_deeds : He.DefD := ⟨("run_deeds", none), "run_deeds", "run_deeds", defArgs st_run_deeds, defBody st_run_deeds, sc_run_deeds, [], []⟩
abbrev st_wide_lanes : Stmt := top 23
abbrev sc_wide_lanes : Scope := defScope st_wide_lanes
abbrev N_wide_lanes : List Str := ["row", "many", "letters", "block", "full", "begin", "i", "letter"]
abbrev d_wide_lanes : He.DefD := ⟨("wide_lanes", none), "wide_lanes", "wide_lanes", defArgs st_wide_lanes, defBody st_wide_lanes, sc_wide_lanes, [], []⟩
abbrev st_many_lanes : Stmt := top 24
abbrev sc_many_lanes : Scope := defScope st_many_lanes
abbrev N_many_lanes : List Str := ["row", "many", "lanes", "after", "size", "columns", "mark"]
abbrev d_many_lanes : He.DefD := ⟨("many_lanes", none), "many_lanes", "many_lanes", defArgs st_many_lanes, defBody st_many_lanes, sc_many_lanes, [], []⟩
abbrev st_all_lanes : Stmt := top 25
abbrev sc_all_lanes : Scope := defScope st_all_lanes
abbrev N_all_lanes : List Str := ["row", "marks"]
abbrev d_all_lanes : He.DefD := ⟨("all_lanes", none), "all_lanes", "all_lanes", defArgs st_all_lanes, defBody st_all_lanes, sc_all_lanes, [], []⟩
abbrev st_first_marks : Stmt := top 16
abbrev sc_first_marks : Scope := defScope st_first_marks
abbrev N_first_marks : List Str := ["row", "_"]
abbrev d_first_marks : He.DefD := ⟨("first_marks", none), "first_marks", "first_marks", defArgs st_first_marks, defBody st_first_marks, sc_first_marks, [], []⟩
abbrev st_zero_steps : Stmt := top 27
abbrev sc_zero_steps : Scope := defScope st_zero_steps
abbrev N_zero_steps : List Str := ["row", "begin", "numbers", "found", "steps", "lanes", "nexts", "line", "letter", "following"]
abbrev d_zero_steps : He.DefD := ⟨("zero_steps", none), "zero_steps", "zero_steps", defArgs st_zero_steps, defBody st_zero_steps, sc_zero_steps, [], []⟩
abbrev st_count_zeros : Stmt := top 28
abbrev sc_count_zeros : Scope := defScope st_count_zeros
abbrev N_count_zeros : List Str := ["row", "width", "steps", "counts", "_", "line", "goal"]
abbrev d_count_zeros : He.DefD := ⟨("count_zeros", none), "count_zeros", "count_zeros", defArgs st_count_zeros, defBody st_count_zeros, sc_count_zeros, [], []⟩
abbrev st_first_zero : Stmt := top 29
abbrev sc_first_zero : Scope := defScope st_first_zero
abbrev N_first_zero : List Str := ["row", "width", "steps", "alive", "_", "last", "number", "reading", "left", "ends", "letter", "step", "line", "goal"]
abbrev d_first_zero : He.DefD := ⟨("first_zero", none), "first_zero", "first_zero", defArgs st_first_zero, defBody st_first_zero, sc_first_zero, [], []⟩
abbrev st__law_asked : Stmt := top 53
abbrev sc__law_asked : Scope := defScope st__law_asked
abbrev N__law_asked : List Str := ["row", "shape", "table", "width", "zeros", "due", "turn", "counted"]
abbrev d__law_asked : He.DefD := ⟨("_law_asked", none), "_law_asked", "_law_asked", defArgs st__law_asked, defBody st__law_asked, sc__law_asked, [], []⟩
abbrev st__law_pick : Stmt := top 39
abbrev sc__law_pick : Scope := defScope st__law_pick
abbrev N__law_pick : List Str := ["pool", "many", "digit", "cell"]
abbrev d__law_pick : He.DefD := ⟨("_law_pick", none), "_law_pick", "_law_pick", defArgs st__law_pick, defBody st__law_pick, sc__law_pick, [], []⟩
abbrev st__law_deed : Stmt := top 40
abbrev sc__law_deed : Scope := defScope st__law_deed
abbrev N__law_deed : List Str := ["pool", "values", "names", "name", "one", "prime", "told", "parts", "k"]
abbrev d__law_deed : He.DefD := ⟨("_law_deed", none), "_law_deed", "_law_deed", defArgs st__law_deed, defBody st__law_deed, sc__law_deed, [], []⟩
abbrev st__law_weight : Stmt := top 41
abbrev sc__law_weight : Scope := defScope st__law_weight
abbrev N__law_weight : List Str := ["deed"]
abbrev d__law_weight : He.DefD := ⟨("_law_weight", none), "_law_weight", "_law_weight", defArgs st__law_weight, defBody st__law_weight, sc__law_weight, [], []⟩
abbrev st__law_deeds : Stmt := top 42
abbrev sc__law_deeds : Scope := defScope st__law_deeds
abbrev N__law_deeds : List Str := ["pool", "inputs", "size", "room", "deeds", "k", "deed"]
abbrev d__law_deeds : He.DefD := ⟨("_law_deeds", none), "_law_deeds", "_law_deeds", defArgs st__law_deeds, defBody st__law_deeds, sc__law_deeds, [], []⟩
abbrev st__law_mark : Stmt := top 43
abbrev sc__law_mark : Scope := defScope st__law_mark
abbrev N__law_mark : List Str := ["name", "mark", "one", "two", "total"]
abbrev d__law_mark : He.DefD := ⟨("_law_mark", none), "_law_mark", "_law_mark", defArgs st__law_mark, defBody st__law_mark, sc__law_mark, [], []⟩
abbrev st__law_step : Stmt := top 44
abbrev sc__law_step : Scope := defScope st__law_step
abbrev N__law_step : List Str := ["inputs", "deeds", "marks", "letter", "bits", "after", "deed", "name", "mark", "two", "bit", "i", "part"]
abbrev d__law_step : He.DefD := ⟨("_law_step", none), "_law_step", "_law_step", defArgs st__law_step, defBody st__law_step, sc__law_step, [], []⟩
abbrev st__law_leads : Stmt := top 45
abbrev sc__law_leads : Scope := defScope st__law_leads
abbrev N__law_leads : List Str := ["inputs", "deeds", "out", "room", "todo", "places", "table", "k", "leads", "letter", "bits", "after", "deed"]
abbrev d__law_leads : He.DefD := ⟨("_law_leads", none), "_law_leads", "_law_leads", defArgs st__law_leads, defBody st__law_leads, sc__law_leads, [], []⟩
abbrev st__law_plain : Stmt := top 48
abbrev sc__law_plain : Scope := defScope st__law_plain
abbrev N__law_plain : List Str := ["inputs", "deeds", "out", "width", "zeros", "first", "word", "marks", "none", "place", "letter", "bits", "deed"]
abbrev d__law_plain : He.DefD := ⟨("_law_plain", none), "_law_plain", "_law_plain", defArgs st__law_plain, defBody st__law_plain, sc__law_plain, [], []⟩
abbrev st__law_refused : Stmt := top 51
abbrev sc__law_refused : Scope := defScope st__law_refused
abbrev N__law_refused : List Str := ["turn", "row", "wrong", "e"]
abbrev d__law_refused : He.DefD := ⟨("_law_refused", none), "_law_refused", "_law_refused", defArgs st__law_refused, defBody st__law_refused, sc__law_refused, [], []⟩
abbrev st__law_ask : Stmt := top 54
abbrev sc__law_ask : Scope := defScope st__law_ask
abbrev N__law_ask : List Str := ["pool", "inputs", "room", "size", "deeds", "out", "turn", "shape", "row", "table", "width", "wrong"]
abbrev d__law_ask : He.DefD := ⟨("_law_ask", none), "_law_ask", "_law_ask", defArgs st__law_ask, defBody st__law_ask, sc__law_ask, [], []⟩
abbrev st_law : Stmt := top 55
abbrev sc_law : Scope := defScope st_law
abbrev N_law : List Str := ["script", "pool", "cell"]
abbrev d_law : He.DefD := ⟨("law", none), "law", "law", defArgs st_law, defBody st_law, sc_law, [], []⟩
abbrev st_InvalidRow_init : Stmt := inClass (top 12) 0
abbrev sc_InvalidRow_init : Scope := defScope st_InvalidRow_init
abbrev N_InvalidRow_init : List Str := ["self", "part", "place", "__class__"]
abbrev d_InvalidRow_init : He.DefD := ⟨("InvalidRow", some "__init__"), "__init__", "InvalidRow.__init__", defArgs st_InvalidRow_init, defBody st_InvalidRow_init, sc_InvalidRow_init, [], []⟩
abbrev st_InvalidNumber_init : Stmt := inClass (top 10) 0
abbrev sc_InvalidNumber_init : Scope := defScope st_InvalidNumber_init
abbrev N_InvalidNumber_init : List Str := ["self", "value", "__class__"]
abbrev d_InvalidNumber_init : He.DefD := ⟨("InvalidNumber", some "__init__"), "__init__", "InvalidNumber.__init__", defArgs st_InvalidNumber_init, defBody st_InvalidNumber_init, sc_InvalidNumber_init, [], []⟩
abbrev FILE : Str := "/claim/cut.py"
abbrev xfs : List He.DefD := [d_InvalidRow_init, d_InvalidNumber_init]
abbrev fa : List He.Fa := [.free "int", .free "len", .free "min", .free "list", .free "enumerate", .free "isinstance", .free "tuple", .free "bool", .free "str", .glo "SIZES", .free "all", .free "range", .free "sum", .free "zip", .glo "MARKED", .free "any", .glo "CarryError", .glo "InvalidNumber", .glo "as_tuple", .glo "is_integer", .glo "is_below", .glo "are_values", .glo "is_count_deed", .glo "is_deed", .glo "is_inputs", .glo "Row", .mkr "Row", .glo "_law_first", .glo "_law_whole", .glo "_law_is_reading", .glo "_law_stays", .glo "_law_zeros", .glo "is_number", .glo "mark_column", .glo "mark_deeds", .glo "spread_mark", .glo "held_lanes", .glo "carry_step", .glo "turned_counts", .glo "run_deeds", .glo "wide_lanes", .glo "many_lanes", .glo "all_lanes", .glo "first_marks", .glo "zero_steps", .glo "count_zeros", .glo "first_zero", .glo "_law_asked", .glo "_law_pick", .glo "_law_deed", .glo "_law_weight", .glo "_law_deeds", .glo "_law_mark", .glo "_law_step", .glo "_law_leads", .glo "_law_plain", .glo "_law_refused", .glo "_law_ask", .glo "law", .glo "InvalidRow", .free "super"]
abbrev fns : List He.DefD := [d_as_tuple, d_is_integer, d_is_below, d_are_values, d_is_count_deed, d_is_deed, d_is_inputs, d_Row_init, d__law_first, d__law_whole, d__law_is_reading, d__law_stays, d__law_zeros, d_is_number, d_mark_column, d_mark_deeds, d_spread_mark, d_held_lanes, d_carry_step, d_turned_counts, d_run_deeds, d_wide_lanes, d_many_lanes, d_all_lanes, d_first_marks, d_zero_steps, d_count_zeros, d_first_zero, d__law_asked, d__law_pick, d__law_deed, d__law_weight, d__law_deeds, d__law_mark, d__law_step, d__law_leads, d__law_plain, d__law_refused, d__law_ask, d_law]
abbrev tbs : List He.Tab := [tabT "SIZES" tab_SIZES]
abbrev mss : List (Frag → Bool) := [attB ["Row"] "inputs", attB ["Row"] "deeds", attB ["Row"] "out", kitC CS, tabB "SIZES" tab_SIZES, tupC "MARKED" tup_MARKED, ersB ES EALL EFL, exB ES "InvalidNumber", errB FILE "InvalidRow" "InvalidRow.__init__" ["part", "place"], errB FILE "InvalidNumber" "InvalidNumber.__init__" ["value"]]
abbrev lo0 : List Str := ["is_integer", "is_number", "is_inputs", "as_tuple", "is_below", "is_word", "are_words", "CarryError", "InvalidNumber", "InvalidWords", "InvalidRow", "MARKED", "mark_deeds", "first_marks", "spread_mark", "held_lanes", "carry_step", "turned_counts", "run_deeds", "mark_column", "wide_lanes", "many_lanes", "all_lanes", "zero_steps", "count_zeros", "first_zero", "SIZES", "are_values", "is_count_deed", "is_deed"]
abbrev lo1 : List Str := ["counted_word", "deed_word", "Row", "_law_pick", "_law_deed", "_law_weight", "_law_deeds", "_law_mark", "_law_step", "_law_leads", "_law_zeros", "_law_first", "_law_plain", "_law_whole", "_law_is_reading", "_law_refused", "_law_stays", "_law_asked", "_law_ask"]
abbrev lo : List Str := lo0 ++ lo1
abbrev R : PySem.W.OpenRow := PySem.W.OpenLaw.row PySem.Challenge.rw_onlycarries_k63_zeros_of_rows
abbrev hkY : PySem.W.Hook := hookY 5 (fun K => noL K && mss.all fun m => m K) fa fns xfs tbs
def ob (s : PySem.W.SharedT) : AlY := obsYG 5 (fun K => noL K && mss.all fun m => m K) fa fns xfs tbs (HandSHeadRun.getT s)
end Py
namespace Py
open PySem PySem.Spec PyProof.Rows L2
theorem run0 (w : World) : HandSHeadRun.RunEq R (PySem.W.view R.prog [55]) hkY ob 8000 lo (w.withFollow "special-get-raises" false) := by
  intro os
  kernel_rfl
theorem run1 (w : World) : HandSHeadRun.RunEq R (PySem.W.view R.prog [55]) hkY ob 8000 lo (w.withFollow "special-get-raises" true) := by
  intro os
  kernel_rfl
theorem run (w : World) : HandSHeadRun.RunEq R (PySem.W.view R.prog [55]) hkY ob 8000 lo w := PySem.W.byRow2 "special-get-raises" run0 run1 w
end Py
/-! More of what is computed. -/
/-! Draws: a pool that a def changes, what is drawn of it. -/
namespace Py
open PySem L2
/-- a value given back, and what the first name's own list holds then -/
def retB (m : EM) : SM := fun e => m e >>= fun d => var 0 e >>= fun l => .ok (.ret (.tup [d, l]))
def oidxC (x y : D) : Res D := match x with | .drw (.inr q) => oidx (.lst (q.2.map .int)) y | _ => .stuck
def blenC (x : D) : Res D := match x with | .drw (.inr q) => blen (.lst (q.2.map .int)) | _ => .stuck
/-- what a pool holds -/
def DV (k : Bool) (a0 : Nat) (xs : List Int) : List D → Prop := fun ds => match k with
  | false => ∃ p c m : Int, ds = [.drw (.inr (a0, xs)), .int p, .int c, .int m] ∧ 0 ≤ p ∧ 0 ≤ m ∧ m < 2147483647
  | true => ∃ p c j m : Int, ds = [.drw (.inr (a0, xs)), .int p, .int c, .int j, .int m] ∧ 0 ≤ p ∧ 0 ≤ m ∧ m < 2147483647
/-- some number below n -/
def pickF (k : Bool) : List D → Res D
  | [.drw (.inl q), .int n] => if q = k ∧ 0 < n ∧ n < 1073741824 then .pick (n - 1).toNat fun i => .ok (.int i) else .stuck
  | _ => .stuck
/-- the body of a def that draws -/
def Draws (k : Bool) (n : Nat) (b : SM) : Prop := ∀ (a0 : Nat) (xs : List Int) (ds : List D) (many : Int), DV k a0 xs ds → 0 < many → many < 1073741824 →
  ∃ r ds', b ([some (.lst ds), some (.int many)] ++ List.replicate (n - 2) none) = .ok (.ret (.tup [.int r, .lst ds'])) ∧ 0 ≤ r ∧ r < many ∧ DV k a0 xs ds'
def allI : List D → Option (List Int)
  | [] => some []
  | .int i :: r => (allI r).map (i :: ·)
  | _ => none
/-- a new pool -/
def mkpF : D → Res D
  | .lst [.lst xs, .int p, .int _, .int u] => if (allI xs).isSome ∧ 0 ≤ p ∧ 0 ≤ u ∧ u < 2147483647 then .ok (.drw (.inl false)) else .stuck
  | .lst [.lst xs, .int p, .int _, .int _, .int u] => if (allI xs).isSome ∧ 0 ≤ p ∧ 0 ≤ u ∧ u < 2147483647 then .ok (.drw (.inl true)) else .stuck
  | _ => .stuck
def mkp (m : EM) : EM := fun e => m e >>= mkpF
theorem mkpF_inv (d : D) : mkpF d = .stuck ∨ (∃ xs p c u, d = .lst [.lst xs, .int p, .int c, .int u] ∧ ((allI xs).isSome ∧ 0 ≤ p ∧ 0 ≤ u ∧ u < 2147483647) ∧ mkpF d = .ok (.drw (.inl false))) ∨
    ∃ xs p c j u, d = .lst [.lst xs, .int p, .int c, .int j, .int u] ∧ ((allI xs).isSome ∧ 0 ≤ p ∧ 0 ≤ u ∧ u < 2147483647) ∧ mkpF d = .ok (.drw (.inl true)) := by
  unfold mkpF
  split
  · rename_i xs p c u
    by_cases h : (allI xs).isSome ∧ 0 ≤ p ∧ 0 ≤ u ∧ u < 2147483647
    · exact .inr (.inl ⟨xs, p, c, u, rfl, h, if_pos h⟩)
    · exact .inl (if_neg h)
  · rename_i xs p c j u
    by_cases h : (allI xs).isSome ∧ 0 ≤ p ∧ 0 ≤ u ∧ u < 2147483647
    · exact .inr (.inr ⟨xs, p, c, j, u, rfl, h, if_pos h⟩)
    · exact .inl (if_neg h)
  · exact .inl rfl
/-- whatever is drawn: it comes to an end, and P holds of it -/
def Always {α : Type} (P : α → Prop) : Res α → Prop
  | .ok a => P a
  | .pick n k => ∀ i, i ≤ n → Always P (k i)
  | .exc _ _ => False
  | .stuck => False
end Py
/-! How the mirrors are computed: equations, loops, comprehensions. -/
namespace Py
open PySem
/-! ### equations -/
theorem var_eq {i : Nat} {e : Env} {d : D} (h : e[i]? = some (some d)) : var i e = .ok d := by
  unfold var
  rw [h]
@[simp] theorem cst_eq (d : D) (e : Env) : cst d e = .ok d := rfl
@[simp] theorem un_eq (f : D → Res D) (a : EM) (e : Env) : un f a e = (a e >>= f) := rfl
@[simp] theorem bin_eq (f : D → D → Res D) (a b : EM) (e : Env) : bin f a b e = (a e >>= fun x => b e >>= fun y => f x y) := rfl
@[simp] theorem argN_eq (e : Env) : argN e = .ok [] := rfl
@[simp] theorem argC_eq (a : EM) (r : AM) (e : Env) : argC a r e = (a e >>= fun x => r e >>= fun xs => .ok (x :: xs)) := rfl
@[simp] theorem call_eq (f : List D → Res D) (a : AM) (e : Env) : call f a e = (a e >>= f) := rfl
@[simp] theorem tst_eq (a : EM) (e : Env) : tst a e = (a e >>= truthy) := rfl
@[simp] theorem andT_eq (a b : TM) (e : Env) : andT a b e = (a e >>= fun x => if x then b e else .ok false) := rfl
@[simp] theorem orT_eq (a b : TM) (e : Env) : orT a b e = (a e >>= fun x => if x then .ok true else b e) := rfl
@[simp] theorem notT_eq (a : TM) (e : Env) : notT a e = (a e >>= fun x => .ok (!x)) := rfl
@[simp] theorem ifE_eq (t : TM) (a b : EM) (e : Env) : ifE t a b e = (t e >>= fun x => if x then a e else b e) := rfl
@[simp] theorem ite_eq (t : TM) (a b : SM) (e : Env) : ite t a b e = (t e >>= fun x => if x then a e else b e) := rfl
@[simp] theorem skip_eq (e : Env) : skip e = .ok (.next e) := rfl
@[simp] theorem ret_eq (m : EM) (e : Env) : ret m e = (m e >>= fun d => .ok (.ret d)) := rfl
@[simp] theorem asg_eq (g : GM) (m : EM) (e : Env) : asg g m e = (m e >>= fun d => lift (g d e) >>= fun e' => .ok (.next e')) := rfl
@[simp] theorem gnm_eq (i : Nat) (d : D) (e : Env) : gnm i d e = some (e.set i (some d)) := rfl
@[simp] theorem seq_eq (a b : SM) (e : Env) : seq a b e = (a e >>= fun f => match f with | .next e' => b e' | r => .ok r) := rfl
@[simp] theorem forB_eq (g : GM) (b : SM) (x : D) (e : Env) : forB g b x e = (lift (g x e) >>= b) := rfl
@[simp] theorem drop_eq (m : EM) (e : Env) : Py.drop m e = (m e >>= fun _ => .ok (.next e)) := rfl
@[simp] theorem tupE_eq (a : AM) (e : Env) : tupE a e = (a e >>= fun xs => chk xs.length (.tup xs)) := rfl
@[simp] theorem lstE_eq (a : AM) (e : Env) : lstE a e = (a e >>= fun xs => chk xs.length (.lst xs)) := rfl
@[simp] theorem andE_eq (a b : EM) (e : Env) : andE a b e = (a e >>= fun x => match x with | .bl true => b e | .bl false => .ok (.bl false) | _ => .stuck) := rfl
@[simp] theorem orE_eq (a b : EM) (e : Env) : orE a b e = (a e >>= fun x => match x with | .bl false => b e | .bl true => .ok (.bl true) | _ => .stuck) := rfl
@[simp] theorem chain_eq (f g : D → D → Res D) (a b c : EM) (e : Env) : chain f g a b c e = (a e >>= fun x => b e >>= fun y => f x y >>= fun z => match z with
  | .bl true => c e >>= fun u => g y u
  | .bl false => .ok (.bl false)
  | _ => .stuck) := rfl
@[simp] theorem iseq_eq (a : EM) (e : Env) : iseq a e = (a e >>= fun x => match x with | .lst xs => .ok xs | .tup xs => .ok xs | _ => .stuck) := rfl
@[simp] theorem for_eq (it : IM) (g : GM) (b : SM) (e : Env) : for_ it g b e = (it e >>= fun xs => forL (forB g b) xs e) := rfl
@[simp] theorem app_eq (i : Nat) (m : EM) (e : Env) : app i m e = (var i e >>= fun l => match l with
  | .lst xs => m e >>= fun d => if xs.length < SZ then .ok (.next (e.set i (some (.lst (xs ++ [d]))))) else .stuck
  | _ => .stuck) := rfl
@[simp] theorem aug_eq (i : Nat) (f : D → D → Res D) (m : EM) (e : Env) : aug i f m e = (var i e >>= fun x => m e >>= fun y => f x y >>= fun z => .ok (.next (e.set i (some z)))) := rfl
@[simp] theorem done_next (e : Env) : done (.ok (.next e)) = .ok .non := rfl
@[simp] theorem done_ret (d : D) : done (.ok (.ret d)) = .ok d := rfl
@[simp] theorem thru_eq (m : SM) (e : Env) : thru m e = noexc (m e) := rfl
@[simp] theorem brk_eq (e : Env) : brk e = .ok (.brk e) := rfl
@[simp] theorem cnt_eq (e : Env) : cnt e = .ok (.cnt e) := rfl
@[simp] theorem retN_eq (e : Env) : retN e = .ok (.ret .non) := rfl
@[simp] theorem chk_0 {d : D} : chk 0 d = .ok d := chk_ok (by decide)
@[simp] theorem chk_1 {d : D} : chk 1 d = .ok d := chk_ok (by decide)
@[simp] theorem chk_2 {d : D} : chk 2 d = .ok d := chk_ok (by decide)
@[simp] theorem chk_3 {d : D} : chk 3 d = .ok d := chk_ok (by decide)
@[simp] theorem chk_4 {d : D} : chk 4 d = .ok d := chk_ok (by decide)
@[simp] theorem chk_5 {d : D} : chk 5 d = .ok d := chk_ok (by decide)
@[simp] theorem chk_6 {d : D} : chk 6 d = .ok d := chk_ok (by decide)
@[simp] theorem chk_7 {d : D} : chk 7 d = .ok d := chk_ok (by decide)
@[simp] theorem chk_8 {d : D} : chk 8 d = .ok d := chk_ok (by decide)
@[simp] theorem chk_9 {d : D} : chk 9 d = .ok d := chk_ok (by decide)
@[simp] theorem chk_10 {d : D} : chk 10 d = .ok d := chk_ok (by decide)
@[simp] theorem chk_11 {d : D} : chk 11 d = .ok d := chk_ok (by decide)
@[simp] theorem chk_12 {d : D} : chk 12 d = .ok d := chk_ok (by decide)
@[simp] theorem chk_13 {d : D} : chk 13 d = .ok d := chk_ok (by decide)
@[simp] theorem chk_14 {d : D} : chk 14 d = .ok d := chk_ok (by decide)
@[simp] theorem chk_15 {d : D} : chk 15 d = .ok d := chk_ok (by decide)
@[simp] theorem chk_16 {d : D} : chk 16 d = .ok d := chk_ok (by decide)
@[simp] theorem chk_17 {d : D} : chk 17 d = .ok d := chk_ok (by decide)
@[simp] theorem chk_18 {d : D} : chk 18 d = .ok d := chk_ok (by decide)
@[simp] theorem chk_19 {d : D} : chk 19 d = .ok d := chk_ok (by decide)
@[simp] theorem chk_20 {d : D} : chk 20 d = .ok d := chk_ok (by decide)
@[simp] theorem chk_21 {d : D} : chk 21 d = .ok d := chk_ok (by decide)
@[simp] theorem chk_22 {d : D} : chk 22 d = .ok d := chk_ok (by decide)
@[simp] theorem chk_23 {d : D} : chk 23 d = .ok d := chk_ok (by decide)
/-! ### calls of defs -/
theorem fn_eq {p n : Nat} {b : SM} {ds : List D} (h : ds.length = p) : fn p n b ds = done (b (ds.map some ++ List.replicate (n - p) none)) := if_pos h
theorem fn1 {n : Nat} {b : SM} {x : D} : fn 1 n b [x] = done (b (some x :: List.replicate (n - 1) none)) := if_pos rfl
theorem fn2 {n : Nat} {b : SM} {x y : D} : fn 2 n b [x, y] = done (b (some x :: some y :: List.replicate (n - 2) none)) := if_pos rfl
theorem fn3 {n : Nat} {b : SM} {x y z : D} : fn 3 n b [x, y, z] = done (b (some x :: some y :: some z :: List.replicate (n - 3) none)) := if_pos rfl
theorem fn4 {n : Nat} {b : SM} {x y z u : D} : fn 4 n b [x, y, z, u] = done (b (some x :: some y :: some z :: some u :: List.replicate (n - 4) none)) := if_pos rfl
/-! ### operators on numbers -/
@[simp] theorem oadd_ii (i j : Int) : oadd (.int i) (.int j) = .ok (.int (i + j)) := rfl
@[simp] theorem osub_ii (i j : Int) : osub (.int i) (.int j) = .ok (.int (i - j)) := rfl
theorem omul_ii {i j : Int} (h : i.natAbs < B64 ∨ j.natAbs < B64) : omul (.int i) (.int j) = .ok (.int (i * j)) := if_pos h
theorem omul_l {i j : Int} (h : -18446744073709551616 < i) (h' : i < 18446744073709551616) : omul (.int i) (.int j) = .ok (.int (i * j)) := omul_ii (.inl (by unfold B64; omega))
theorem omul_r {i j : Int} (h : -18446744073709551616 < j) (h' : j < 18446744073709551616) : omul (.int i) (.int j) = .ok (.int (i * j)) := omul_ii (.inr (by unfold B64; omega))
theorem opow18 : opow (.int 10) (.int 18) = .ok (.int 1000000000000000000) := rfl
theorem omod_ii {i j : Int} (h : 0 < j) : omod (.int i) (.int j) = .ok (.int (i % j)) := if_pos h
theorem ofdiv_ii {i j : Int} (h : 0 < j ∧ j < 1073741824) : ofdiv (.int i) (.int j) = .ok (.int (i / j)) := if_pos h
theorem oshl_ii {i j : Int} (h : 0 ≤ j ∧ (Builtin.Int.intBits i : Int) + j ≤ 134217728) : oshl (.int i) (.int j) = .ok (.int (i * 2 ^ j.toNat)) := if_pos h
theorem oshr_ii {i j : Int} (h : 0 ≤ j) : oshr (.int i) (.int j) = .ok (.int (i / 2 ^ j.toNat)) := if_pos h
@[simp] theorem oand_ii (i j : Int) : oand (.int i) (.int j) = .ok (.int (Builtin.bitAnd i j)) := rfl
@[simp] theorem olt_ii (i j : Int) : olt (.int i) (.int j) = .ok (.bl (decide (i < j))) := rfl
@[simp] theorem ole_ii (i j : Int) : ole (.int i) (.int j) = .ok (.bl (decide (i ≤ j))) := rfl
@[simp] theorem ogt_ii (i j : Int) : ogt (.int i) (.int j) = .ok (.bl (decide (j < i))) := rfl
@[simp] theorem oge_ii (i j : Int) : oge (.int i) (.int j) = .ok (.bl (decide (j ≤ i))) := rfl
@[simp] theorem oneg_i (i : Int) : oneg (.int i) = .ok (.int (-i)) := rfl
@[simp] theorem oeq_ii (i j : Int) : oeq (.int i) (.int j) = .ok (.bl (i == j)) := rfl
@[simp] theorem one_ii (i j : Int) : Py.one (.int i) (.int j) = .ok (.bl (!(i == j))) := rfl
@[simp] theorem bint_i (i : Int) : bint (.int i) = .ok (.int i) := rfl
@[simp] theorem bint_b (b : Bool) : bint (.bl b) = .ok (.int (b2i b)) := rfl
@[simp] theorem truthy_b (b : Bool) : truthy (.bl b) = .ok b := rfl
@[simp] theorem truthy_i (i : Int) : truthy (.int i) = .ok (i != 0) := rfl
@[simp] theorem blen_l (xs : List D) : blen (.lst xs) = .ok (.int xs.length) := rfl
@[simp] theorem blen_t (xs : List D) : blen (.tup xs) = .ok (.int xs.length) := rfl
@[simp] theorem btuple_l (xs : List D) : btuple (.lst xs) = .ok (.tup xs) := rfl
@[simp] theorem btuple_t (xs : List D) : btuple (.tup xs) = .ok (.tup xs) := rfl
@[simp] theorem blist_l (xs : List D) : blist (.lst xs) = .ok (.lst xs) := rfl
@[simp] theorem blist_t (xs : List D) : blist (.tup xs) = .ok (.lst xs) := rfl
@[simp] theorem onb_b (b : Bool) : onb (.bl b) = .ok (.bl (!b)) := rfl
/-! ### subscripts -/
theorem ixN_nat {n k : Nat} (h : k < n) : L2.ixN n (k : Int) = some k := by
  unfold L2.ixN
  simp [h]
theorem atI_nat {α : Type} {xs : List α} {k : Nat} (h : k < xs.length) : L2.atI xs (k : Int) = some xs[k] := by
  unfold L2.atI
  rw [ixN_nat h]
  simp [h]
theorem oidx_l {xs : List D} {k : Nat} {d : D} (h : xs[k]? = some d) : oidx (.lst xs) (.int (k : Int)) = .ok d := by
  have hk : k < xs.length := by
    rcases Nat.lt_or_ge k xs.length with h1 | h1
    · exact h1
    · rw [List.getElem?_eq_none h1] at h
      cases h
  unfold oidx
  simp only [atI_nat hk, opt]
  rw [List.getElem?_eq_getElem hk] at h
  rw [Option.some.inj h]
theorem oidx_t {xs : List D} {k : Nat} {d : D} (h : xs[k]? = some d) : oidx (.tup xs) (.int (k : Int)) = .ok d := by
  have q : oidx (.tup xs) (.int (k : Int)) = oidx (.lst xs) (.int (k : Int)) := rfl
  rw [q]
  exact oidx_l h
/-! ### loops -/
theorem rng_map (n : Nat) : rngL 0 (n : Int) = (List.range n).map fun i => D.int ((i : Nat) : Int) := by
  unfold rngL
  rw [Int.sub_zero, Int.toNat_natCast]
  refine List.map_congr_left fun i _ => ?_
  rw [Int.zero_add]
theorem rng_lt {n : Nat} (h : n ≤ 1000) : n < B62 := Nat.lt_of_le_of_lt h (by decide)
theorem irng1_int {a : EM} {e : Env} {i : Int} (h : a e = .ok (.int i)) : irng1 a e = if i.natAbs < B62 then .ok (rngL 0 i) else .stuck := by
  unfold irng1
  simp only [h, bind_ok]
theorem irng1_nat {a : EM} {e : Env} {n : Nat} (h : a e = .ok (.int (n : Int))) (hn : n < B62) : irng1 a e = .ok ((List.range n).map fun i => .int ((i : Nat) : Int)) := by
  rw [← rng_map, irng1_int h]
  exact if_pos hn
theorem forL_inv {b : D → Env → Res Fl} (I : Nat → Env → Prop) : ∀ {xs : List D} {e : Env} (k : Nat), I k e → (∀ i e, (h : i < xs.length) → I (k + i) e → ∃ e', b xs[i] e = .ok (.next e') ∧ I (k + i + 1) e') → ∃ e', forL b xs e = .ok (.next e') ∧ I (k + xs.length) e'
  | [], e, k, h, _ => ⟨e, rfl, h⟩
  | x :: xs, e, k, h, hb => by
    obtain ⟨e1, h1, i1⟩ := hb 0 e (by simp) h
    have h1' : b x e = .ok (.next e1) := h1
    obtain ⟨e2, h2, i2⟩ := forL_inv (xs := xs) I (k + 1) i1 fun i e' hi hI => by
      have hI' : I (k + (i + 1)) e' := by
        rw [show k + (i + 1) = k + 1 + i by omega]
        exact hI
      obtain ⟨e3, h3, i3⟩ := hb (i + 1) e' (by simpa using hi) hI'
      refine ⟨e3, by simpa using h3, ?_⟩
      rw [show k + 1 + i + 1 = k + (i + 1) + 1 by omega]
      exact i3
    refine ⟨e2, ?_, ?_⟩
    · unfold forL
      rw [h1']
      exact h2
    · rw [show k + (x :: xs).length = k + 1 + xs.length by simp; omega]
      exact i2
/-- for each of range(n) -/
theorem forR_inv {b : D → Env → Res Fl} (I : Nat → Env → Prop) {n : Nat} {e : Env} (h0 : I 0 e) (hb : ∀ i e, i < n → I i e → ∃ e', b (.int ((i : Nat) : Int)) e = .ok (.next e') ∧ I (i + 1) e') :
    ∃ e', forL b ((List.range n).map fun i => .int ((i : Nat) : Int)) e = .ok (.next e') ∧ I n e' := by
  have q := forL_inv (b := b) (xs := (List.range n).map fun i => .int ((i : Nat) : Int)) I 0 h0 fun i e' hi hI => by
    have hi' : i < n := by simpa using hi
    have := hb i e' hi' (by simpa using hI)
    simpa using this
  simpa using q
/-! ### comprehensions -/
/-! ### sums, all -/
theorem intsOf_map : ∀ is : List Int, intsOf (is.map .int) = some is
  | [] => rfl
  | i :: is => by
    simp only [List.map_cons, intsOf, intsOf_map is]
    rfl
theorem boolsOf_map : ∀ is : List Bool, boolsOf (is.map .bl) = some is
  | [] => rfl
  | i :: is => by
    simp only [List.map_cons, boolsOf, boolsOf_map is]
    rfl
theorem bsum_ints (is : List Int) : bsum (.lst (is.map .int)) = .ok (.int is.sum) := by
  unfold bsum
  simp only [intsOf_map]
theorem ball_bools (bs : List Bool) : ball (.lst (bs.map .bl)) = .ok (.bl (bs.all id)) := by
  unfold ball
  simp only [boolsOf_map]
/-! ### bits -/
theorem oand1 (i : Int) : oand (.int i) (.int 1) = .ok (.int (i % 2)) := by rw [oand_ii, PyProof.Rows.bitAnd_m1]
theorem oshr_nat (c : Int) (p : Nat) : oshr (.int c) (.int (p : Int)) = .ok (.int (c / 2 ^ p)) := by
  rw [oshr_ii (Int.natCast_nonneg p), Int.toNat_natCast]
theorem intBits_1 : (Builtin.Int.intBits 1 : Int) = 1 := by decide
theorem oshl1 (p : Nat) (h : p ≤ 1000) : oshl (.int 1) (.int (p : Int)) = .ok (.int (2 ^ p)) := by
  rw [oshl_ii ⟨Int.natCast_nonneg p, by rw [intBits_1]; omega⟩, Int.toNat_natCast, Int.one_mul]
end Py
/-! The two defs that draw. -/
namespace Py
open PySem
def pickB : SM :=
  (seq (ite (tst (bin ogt (bin oidx (var 0) (cst (.int 2))) (cst (.int 1)))) (seq (asg (gnm 2) (bin omod (un bint (bin oidx (var 0) (cst (.int 2)))) (var 1)))
  (seq (setL 0 (cst (.int 2)) (bin ofdiv (bin oidx (var 0) (cst (.int 2))) (var 1)))
  (retB (var 2)))) skip)
  (seq (asg (gnm 3) (cst (.int 0)))
  (seq (ite (tst (bin olt (bin oidx (var 0) (cst (.int 1))) (un blenC (bin oidx (var 0) (cst (.int 0)))))) (seq (asg (gnm 3) (bin oidxC (bin oidx (var 0) (cst (.int 0))) (bin oidx (var 0) (cst (.int 1)))))
  (setL 0 (cst (.int 1)) (bin oadd (bin oidx (var 0) (cst (.int 1))) (cst (.int 1))))) skip)
  (seq (ite (tst (bin ogt (var 3) (bin oadd (bin opow (cst (.int 10)) (cst (.int 18))) (cst (.int 1))))) (seq (asg (gnm 3) (bin osub (var 3) (bin opow (cst (.int 10)) (cst (.int 18)))))
  (seq (setL 0 (cst (.int 2)) (bin ofdiv (var 3) (var 1)))
  (retB (bin omod (un bint (var 3)) (var 1))))) skip)
  (seq (setL 0 (cst (.int 3)) (bin omod (un bint (bin oadd (bin oadd (bin omul (bin oidx (var 0) (cst (.int 3))) (cst (.int 48271))) (bin omul (var 3) (cst (.int 69621)))) (cst (.int 11)))) (cst (.int 2147483647))))
  (retB (bin omod (bin ofdiv (bin omod (un bint (bin oadd (bin omul (bin oidx (var 0) (cst (.int 3))) (bin oidx (var 0) (cst (.int 3)))) (bin omul (bin oidx (var 0) (cst (.int 3))) (cst (.int 7919))))) (cst (.int 998244353))) (cst (.int 7))) (var 1))))))))
def pickT : SM :=
  (seq (ite (tst (bin ogt (var 3) (bin oadd (bin opow (cst (.int 10)) (cst (.int 18))) (cst (.int 1))))) (seq (asg (gnm 3) (bin osub (var 3) (bin opow (cst (.int 10)) (cst (.int 18)))))
  (seq (setL 0 (cst (.int 2)) (bin ofdiv (var 3) (var 1)))
  (retB (bin omod (un bint (var 3)) (var 1))))) skip)
  (seq (setL 0 (cst (.int 3)) (bin omod (un bint (bin oadd (bin oadd (bin omul (bin oidx (var 0) (cst (.int 3))) (cst (.int 48271))) (bin omul (var 3) (cst (.int 69621)))) (cst (.int 11)))) (cst (.int 2147483647))))
  (retB (bin omod (bin ofdiv (bin omod (un bint (bin oadd (bin omul (bin oidx (var 0) (cst (.int 3))) (bin oidx (var 0) (cst (.int 3)))) (bin omul (bin oidx (var 0) (cst (.int 3))) (cst (.int 7919))))) (cst (.int 998244353))) (cst (.int 7))) (var 1)))))
theorem draws_pick : Draws false 4 pickB := by
  rintro a0 xs _ n ⟨p, c, m, rfl, hp, hm0, hm1⟩ hn0 hn1
  have i0 : ∀ {a b c d : D}, oidx (.lst [a, b, c, d]) (.int 0) = .ok a := rfl
  have i1 : ∀ {a b c d : D}, oidx (.lst [a, b, c, d]) (.int 1) = .ok b := rfl
  have i2 : ∀ {a b c d : D}, oidx (.lst [a, b, c, d]) (.int 2) = .ok c := rfl
  have i3 : ∀ {a b c d : D}, oidx (.lst [a, b, c, d]) (.int 3) = .ok d := rfl
  have x1 : L2.ixN 4 1 = some 1 := rfl
  have x2 : L2.ixN 4 2 = some 2 := rfl
  have x3 : L2.ixN 4 3 = some 3 := rfl
  have hmod : ∀ z : Int, 0 ≤ z % n ∧ z % n < n := fun z => ⟨Int.emod_nonneg _ (by omega), Int.emod_lt_of_pos _ hn0⟩
  have mods : ∀ z : Int, omod (.int z) (.int n) = .ok (.int (z % n)) := fun z => omod_ii hn0
  have divs : ∀ z : Int, ofdiv (.int z) (.int n) = .ok (.int (z / n)) := fun z => ofdiv_ii ⟨hn0, hn1⟩
  have bl : blenC (.drw (.inr (a0, xs))) = .ok (.int (xs.length : Int)) := by simp [blenC]
  have md1 : ∀ z : Int, omod (.int z) (.int 2147483647) = .ok (.int (z % 2147483647)) := fun z => omod_ii (by decide)
  have md2 : ∀ z : Int, omod (.int z) (.int 998244353) = .ok (.int (z % 998244353)) := fun z => omod_ii (by decide)
  have dv7 : ∀ z : Int, ofdiv (.int z) (.int 7) = .ok (.int (z / 7)) := fun z => ofdiv_ii (by decide)
  have ml1 : ∀ z : Int, omul (.int z) (.int 48271) = .ok (.int (z * 48271)) := fun z => omul_r (by decide) (by decide)
  have ml2 : ∀ z : Int, omul (.int z) (.int 69621) = .ok (.int (z * 69621)) := fun z => omul_r (by decide) (by decide)
  have ml3 : ∀ z : Int, omul (.int z) (.int 7919) = .ok (.int (z * 7919)) := fun z => omul_r (by decide) (by decide)
  have ml4 : ∀ z y : Int, omul (.int (z % 2147483647)) (.int y) = .ok (.int (z % 2147483647 * y)) := fun z y => omul_l (by omega) (by omega)
  have mm : ∀ z : Int, 0 ≤ z % 2147483647 ∧ z % 2147483647 < 2147483647 := fun z => by omega
  by_cases hc : 1 < c
  · refine ⟨c % n, _, ?_, (hmod c).1, (hmod c).2, ⟨p, c / n, m, rfl, hp, hm0, hm1⟩⟩
    simp [pickB, pickT, var, setL, retB, i2, hc, x2, mods, divs]
  -- the end of the walk, the cell known
  have tail : ∀ (p' z : Int), 0 ≤ p' → ∃ r ds', (pickT : SM) [some (.lst [.drw (.inr (a0, xs)), .int p', .int c, .int m]), some (.int n), none, some (.int z)] = .ok (.ret (.tup [.int r, .lst ds'])) ∧ 0 ≤ r ∧ r < n ∧ DV false a0 xs ds' := by
    intro p' z hp'
    by_cases hz : 1000000000000000001 < z
    · refine ⟨(z - 1000000000000000000) % n, _, ?_, (hmod _).1, (hmod _).2, ⟨p', (z - 1000000000000000000) / n, m, rfl, hp', hm0, hm1⟩⟩
      simp [pickT, var, setL, retB, opow18, hz, x2, mods, divs]
    · generalize hu : (m * 48271 + z * 69621 + 11) % 2147483647 = u
      have hu1 := mm (m * 48271 + z * 69621 + 11)
      rw [hu] at hu1
      have ml5 : omul (.int u) (.int u) = .ok (.int (u * u)) := omul_l (by omega) (by omega)
      refine ⟨(u * u + u * 7919) % 998244353 / 7 % n, _, ?_, (hmod _).1, (hmod _).2, ⟨p', c, u, rfl, hp', hu1.1, hu1.2⟩⟩
      simp [pickT, var, setL, retB, opow18, hz, x3, i3, mods, divs, ml1, ml2, ml3, md1, hu, ml5, md2, dv7]
  by_cases hq : p < (xs.length : Int)
  · obtain ⟨k, rfl⟩ : ∃ k : Nat, p = (k : Int) := ⟨p.toNat, by omega⟩
    have hk : k < xs.length := by omega
    have cell : oidxC (.drw (.inr (a0, xs))) (.int (k : Int)) = .ok (.int xs[k]) := by
      unfold oidxC
      exact oidx_l (by simp [hk])
    obtain ⟨r, ds', h1, h2⟩ := tail ((k : Int) + 1) xs[k] (by omega)
    refine ⟨r, ds', ?_, h2⟩
    rw [← h1]
    simp [pickB, pickT, var, setL, i0, i1, i2, hc, hq, x1, bl, cell]
  · obtain ⟨r, ds', h1, h2⟩ := tail p 0 hp
    refine ⟨r, ds', ?_, h2⟩
    rw [← h1]
    simp [pickB, pickT, var, setL, i0, i1, i2, hc, hq, x1, bl]
end Py
/-! What plain data look like in the abstract heap, and the readings that say: this code computes that. -/
namespace Py
open PySem L2
theorem ofS_inj {a b : String} (h : Str.ofString a = Str.ofString b) : a = b := by
  rw [Str.ofString_eq_toList, Str.ofString_eq_toList] at h
  have h1 : a.toList.map Char.toNat = b.toList.map Char.toNat := by
    have := congrArg (fun s : Str => s.cps.toList) h
    simpa using this
  have h2 : a.toList = b.toList := by
    have hc : ∀ x y : Char, x.toNat = y.toNat → x = y := fun x y e => by
      apply Char.ext
      apply UInt32.toNat_inj.mp
      exact e
    generalize a.toList = l at h1
    generalize b.toList = m at h1
    induction l generalizing m with
    | nil => cases m with
      | nil => rfl
      | cons _ _ => simp at h1
    | cons x l ih => cases m with
      | nil => simp at h1
      | cons y m =>
        simp only [List.map_cons, List.cons.injEq] at h1
        rw [hc _ _ h1.1, ih m h1.2]
  exact String.ext_iff.mpr h2
/-- an address set to be avoided -/
abbrev AS := Addr → Prop
/-- a key of a dict of numbers and texts -/
def kvK : D → Option Key
  | .int i => some (.inl i)
  | .str s => some (.inr (Str.ofString s))
  | _ => none
mutual
/-- a key, nested -/
def nk : D → Option NestedKey
  | .non => some .none
  | .bl b => some (.num (b2i b))
  | .int i => some (.num i)
  | .tup xs => (nkL xs).map .tup
  | _ => none
def nkL : List D → Option (List NestedKey)
  | [] => some []
  | d :: r => match nk d, nkL r with | some k, some ks => some (k :: ks) | _, _ => none
end
def entW (w : World) (x : NestedKey × Addr × Value) : DictEntry := ⟨x.1.hash w, .ref x.2.1, x.2.2⟩
/-- a dict whose keys are tuples -/
def dicT (a : Addr) (es : List (NestedKey × Addr × V)) : HO := .ext fun h => (a == sysModules) = false ∧ es.length ≤ sizeLine ∧ ∃ xs : List (NestedKey × Addr × Value), Paired (fun p q => p.1 = q.1 ∧ p.2.1 = q.2.1 ∧ RelV p.2.2 q.2.2) es xs ∧
  ∃ o en ep, h.get? a = some o ∧ o.ExactDict ∧ o.data = .dict en ep ∧ (∀ w : World, en.toList = xs.map (entW w)) ∧ (xs.map (·.1)).Nodup
/-- a pool of draws: the script's numbers at a0, a place in them, what is left of a cell, the mixer (k: and a count) -/
def PoolV (k : Bool) (a0 : Addr) : List V → Prop := fun vs => match k with
  | false => ∃ p c m : Int, vs = [.ref a0, .int p, .int c, .int m] ∧ 0 ≤ p ∧ 0 ≤ m ∧ m < 2147483647
  | true => ∃ p c j m : Int, vs = [.ref a0, .int p, .int c, .int j, .int m] ∧ 0 ≤ p ∧ 0 ≤ m ∧ m < 2147483647
def poolO (k : Bool) (a a0 : Addr) : HO := .ext fun h => ∃ (vs : List V) (its : List Value) (n : Nat), PoolV k a0 vs ∧ Vals vs its ∧ h.get? a = some { cls := .type "list", data := .seq its.toArray n }
mutual
def Rep (K : Frag) (A : AS) (H : Hp) : D → V → Prop
  | .non, v => v = .non
  | .bl b, v => v = .bl b
  | .int i, v => v = .int i
  | .str s, v => v = .str (Str.ofString s)
  | .tup xs, v => ∃ a vs, v = .ref a ∧ SqT K H a vs ∧ RepL K A H xs vs
  | .lst xs, v => ∃ a vs, v = .ref a ∧ ¬ A a ∧ Rd H a (.lst vs) ∧ RepL K A H xs vs
  | .dic t kvs, v => ∃ a, v = .ref a ∧ ¬ A a ∧ ((t = false ∧ ∃ ks, H a = some (.dK ks) ∧ RepK K A H kvs ks) ∨ (t = true ∧ ∃ es, H a = some (dicT a es) ∧ RepT K A H kvs es))
  | .ins c fs, v => ∃ a dx fvs, v = .ref a ∧ ¬ A a ∧ H a = some (.ins (ca K c) dx fvs) ∧ RepF K A H fs fvs
  | .drw (.inr q), v => v = .ref q.1 ∧ ¬ A q.1 ∧ Rd H q.1 (.lst (q.2.map V.int))
  | .drw (.inl k), v => ∃ a a0 xs, v = .ref a ∧ ¬ A a ∧ H a = some (poolO k a a0) ∧ ¬ A a0 ∧ Rd H a0 (.lst ((xs : List Int).map V.int))
def RepL (K : Frag) (A : AS) (H : Hp) : List D → List V → Prop
  | [], vs => vs = []
  | d :: ds, vs => ∃ v r, vs = v :: r ∧ Rep K A H d v ∧ RepL K A H ds r
def RepF (K : Frag) (A : AS) (H : Hp) : List (String × D) → List (Str × V) → Prop
  | [], fs => fs = []
  | (n, d) :: r, fs => ∃ v q, fs = (Str.ofString n, v) :: q ∧ Rep K A H d v ∧ RepF K A H r q
def RepK (K : Frag) (A : AS) (H : Hp) : List (D × D) → List (Key × V) → Prop
  | [], ks => ks = []
  | (k, d) :: r, ks => ∃ c v q, ks = (c, v) :: q ∧ kvK k = some c ∧ Rep K A H d v ∧ RepK K A H r q
def RepT (K : Frag) (A : AS) (H : Hp) : List (D × D) → List (NestedKey × Addr × V) → Prop
  | [], es => es = []
  | (k, d) :: r, es => ∃ c b v q, es = (c, b, v) :: q ∧ (nk k = some c ∧ keyOk true k = true) ∧ Rep K A H k (.ref b) ∧ Rep K A H d v ∧ RepT K A H r q
end
/-- what a dict at a holds -/
def DicAt (K : Frag) (A : AS) (H : Hp) (a : Addr) (t : Bool) (kvs : List (D × D)) : Prop := (t = false ∧ ∃ ks, H a = some (.dK ks) ∧ RepK K A H kvs ks) ∨ (t = true ∧ ∃ es, H a = some (dicT a es) ∧ RepT K A H kvs es)
theorem rep_dic {K : Frag} {A : AS} {H : Hp} {t : Bool} {kvs : List (D × D)} {v : V} : Rep K A H (.dic t kvs) v ↔ ∃ a, v = .ref a ∧ ¬ A a ∧ DicAt K A H a t kvs := by
  simp only [Rep]
  exact Iff.rfl
/-- a tuple never changes -/
def still : HO → Prop
  | .tup _ => True
  | .frz _ (.tup _) => True
  | _ => False
/-- from H to H': what is not in A is kept, the new A' has of the old heap only A -/
structure Mv (A : AS) (H : Hp) (A' : AS) (H' : Hp) : Prop where
  av : ∀ a, A' a → A a ∨ H a = none
  kp : ∀ a o, H a = some o → (¬ A a ∨ still o) → H' a = some o
theorem Mv.same {A : AS} {H H' : Hp} (s : Same H H') : Mv A H A H' := ⟨fun _ h => .inl h, fun a o e _ => s a o e⟩
theorem Mv.less {A A' : AS} {H : Hp} (s : ∀ a, A' a → A a) : Mv A H A' H := ⟨fun a h => .inl (s a h), fun _ _ e _ => e⟩
theorem Mv.refl {A : AS} {H : Hp} : Mv A H A H := .same (Same.refl H)
theorem Mv.trans {A A1 A2 : AS} {H H1 H2 : Hp} (h : Mv A H A1 H1) (k : Mv A1 H1 A2 H2) : Mv A H A2 H2 := by
  refine ⟨fun a x => ?_, fun a o e q => ?_⟩
  · rcases k.av a x with y | y
    · exact h.av a y
    · cases e : H a with
      | none => exact .inr rfl
      | some o =>
        by_cases hA : A a
        · exact .inl hA
        · rw [h.kp a o e (.inl hA)] at y
          cases y
  · refine k.kp a o (h.kp a o e q) ?_
    rcases q with q | q
    · refine .inl fun y => ?_
      rcases h.av a y with z | z
      · exact q z
      · rw [e] at z
        cases z
    · exact .inr q
theorem Rd.move {A A' : AS} {H H' : Hp} {a : Addr} {u : HO} (m : Mv A H A' H') (h : Rd H a u) (n : ¬ A a) : Rd H' a u ∧ ¬ A' a := by
  have key : ∀ o, H a = some o → H' a = some o ∧ ¬ A' a := fun o e => ⟨m.kp a o e (.inl n), fun x => by
    rcases m.av a x with y | y
    · exact n y
    · rw [e] at y
      cases y⟩
  rcases h with h | ⟨o, h⟩
  · exact ⟨.inl (key _ h).1, (key _ h).2⟩
  · exact ⟨.inr ⟨o, (key _ h).1⟩, (key _ h).2⟩
theorem SqT.move {K : Frag} {A A' : AS} {H H' : Hp} {a : Addr} {vs : List V} (m : Mv A H A' H') (h : SqT K H a vs) : SqT K H' a vs := by
  rcases h with (h | ⟨o, h⟩) | h
  · exact .inl (.inl (m.kp a _ h (.inr trivial)))
  · exact .inl (.inr ⟨o, m.kp a _ h (.inr trivial)⟩)
  · exact .inr h
mutual
theorem Rep.move {K : Frag} {A A' : AS} {H H' : Hp} (m : Mv A H A' H') : ∀ (d : D) (v : V), Rep K A H d v → Rep K A' H' d v
  | .non, _, h => h
  | .bl _, _, h => h
  | .int _, _, h => h
  | .str _, _, h => h
  | .tup xs, v, h => by
    simp only [Rep] at h ⊢
    obtain ⟨a, vs, e, q, r⟩ := h
    exact ⟨a, vs, e, SqT.move m q, RepL.move m xs vs r⟩
  | .lst xs, v, h => by
    simp only [Rep] at h ⊢
    obtain ⟨a, vs, e, n, q, r⟩ := h
    exact ⟨a, vs, e, (Rd.move m q n).2, (Rd.move m q n).1, RepL.move m xs vs r⟩
  | .dic t kvs, v, h => by
    simp only [Rep] at h ⊢
    obtain ⟨a, e, n, ⟨ht, ks, q, r⟩ | ⟨ht, es, q, r⟩⟩ := h
    · have z := Rd.move m (.inl q) n
      exact ⟨a, e, z.2, .inl ⟨ht, ks, m.kp a _ q (.inl n), RepK.move m kvs ks r⟩⟩
    · have z := Rd.move m (.inl q) n
      exact ⟨a, e, z.2, .inr ⟨ht, es, m.kp a _ q (.inl n), RepT.move m kvs es r⟩⟩
  | .ins c fs, v, h => by
    simp only [Rep] at h ⊢
    obtain ⟨a, dx, fvs, e, n, q, r⟩ := h
    have z : Rd H' a _ ∧ ¬ A' a := Rd.move m (.inl q) n
    refine ⟨a, dx, fvs, e, z.2, ?_, RepF.move m fs fvs r⟩
    exact m.kp a _ q (.inl n)
  | .drw (.inr q), v, h => by
    simp only [Rep] at h ⊢
    exact ⟨h.1, (Rd.move m h.2.2 h.2.1).2, (Rd.move m h.2.2 h.2.1).1⟩
  | .drw (.inl k), v, h => by
    simp only [Rep] at h ⊢
    obtain ⟨a, a0, xs, e, n, q, n0, r⟩ := h
    have z : Rd H' a _ ∧ ¬ A' a := Rd.move m (.inl q) n
    exact ⟨a, a0, xs, e, z.2, m.kp a _ q (.inl n), (Rd.move m r n0).2, (Rd.move m r n0).1⟩
theorem RepL.move {K : Frag} {A A' : AS} {H H' : Hp} (m : Mv A H A' H') : ∀ (ds : List D) (vs : List V), RepL K A H ds vs → RepL K A' H' ds vs
  | [], vs, h => by
    simp only [RepL] at h ⊢
    exact h
  | d :: ds, vs, h => by
    simp only [RepL] at h ⊢
    obtain ⟨v, r, e, h1, h2⟩ := h
    exact ⟨v, r, e, Rep.move m d v h1, RepL.move m ds r h2⟩
theorem RepF.move {K : Frag} {A A' : AS} {H H' : Hp} (m : Mv A H A' H') : ∀ (ds : List (String × D)) (vs : List (Str × V)), RepF K A H ds vs → RepF K A' H' ds vs
  | [], vs, h => by
    simp only [RepF] at h ⊢
    exact h
  | (n, d) :: ds, vs, h => by
    simp only [RepF] at h ⊢
    obtain ⟨v, r, e, h1, h2⟩ := h
    exact ⟨v, r, e, Rep.move m d v h1, RepF.move m ds r h2⟩
theorem RepK.move {K : Frag} {A A' : AS} {H H' : Hp} (m : Mv A H A' H') : ∀ (ds : List (D × D)) (vs : List (Key × V)), RepK K A H ds vs → RepK K A' H' ds vs
  | [], vs, h => by
    simp only [RepK] at h ⊢
    exact h
  | (k, d) :: ds, vs, h => by
    simp only [RepK] at h ⊢
    obtain ⟨c, v, r, e, h0, h1, h2⟩ := h
    exact ⟨c, v, r, e, h0, Rep.move m d v h1, RepK.move m ds r h2⟩
theorem RepT.move {K : Frag} {A A' : AS} {H H' : Hp} (m : Mv A H A' H') : ∀ (ds : List (D × D)) (vs : List (NestedKey × Addr × V)), RepT K A H ds vs → RepT K A' H' ds vs
  | [], vs, h => by
    simp only [RepT] at h ⊢
    exact h
  | (k, d) :: ds, vs, h => by
    simp only [RepT] at h ⊢
    obtain ⟨c, b, v, r, e, h0, h1, h2, h3⟩ := h
    exact ⟨c, b, v, r, e, h0, Rep.move m k _ h1, Rep.move m d v h2, RepT.move m ds r h3⟩
end
theorem DicAt.move {K : Frag} {A A' : AS} {H H' : Hp} {a : Addr} {t : Bool} {kvs : List (D × D)} (m : Mv A H A' H') (k : H' a = H a) (h : DicAt K A H a t kvs) : DicAt K A' H' a t kvs := by
  rcases h with ⟨ht, ks, q, r⟩ | ⟨ht, es, q, r⟩
  · exact .inl ⟨ht, ks, k.trans q, RepK.move m kvs ks r⟩
  · exact .inr ⟨ht, es, k.trans q, RepT.move m kvs es r⟩
theorem RepL.length {K : Frag} {A : AS} {H : Hp} : ∀ {ds : List D} {vs : List V}, RepL K A H ds vs → ds.length = vs.length
  | [], vs, h => by
    simp only [RepL] at h
    subst h
    rfl
  | d :: ds, vs, h => by
    simp only [RepL] at h
    obtain ⟨v, r, rfl, h1, h2⟩ := h
    simp [RepL.length h2]
theorem RepL.get {K : Frag} {A : AS} {H : Hp} : ∀ {ds : List D} {vs : List V} {i : Nat} {d : D}, RepL K A H ds vs → ds[i]? = some d → ∃ v, vs[i]? = some v ∧ Rep K A H d v
  | [], vs, i, d, h, e => by simp at e
  | d0 :: ds, vs, i, d, h, e => by
    simp only [RepL] at h
    obtain ⟨v, r, rfl, h1, h2⟩ := h
    cases i with
    | zero =>
      simp at e
      subst e
      exact ⟨v, rfl, h1⟩
    | succ i =>
      obtain ⟨w, q1, q2⟩ := RepL.get (i := i) h2 (by simpa using e)
      exact ⟨w, by simpa using q1, q2⟩
theorem RepL.append {K : Frag} {A : AS} {H : Hp} : ∀ {ds es : List D} {vs ws : List V}, RepL K A H ds vs → RepL K A H es ws → RepL K A H (ds ++ es) (vs ++ ws)
  | [], es, vs, ws, h, k => by
    simp only [RepL] at h
    subst h
    exact k
  | d :: ds, es, vs, ws, h, k => by
    simp only [RepL] at h
    obtain ⟨v, r, rfl, h1, h2⟩ := h
    simp only [List.cons_append, RepL]
    exact ⟨v, r ++ ws, rfl, h1, RepL.append h2 k⟩
theorem RepL.drop {K : Frag} {A : AS} {H : Hp} : ∀ {ds : List D} {vs : List V} (n : Nat), RepL K A H ds vs → RepL K A H (ds.drop n) (vs.drop n)
  | ds, vs, 0, h => h
  | [], vs, n + 1, h => by
    simp only [RepL] at h
    subst h
    simp [RepL]
  | d :: ds, vs, n + 1, h => by
    simp only [RepL] at h
    obtain ⟨v, r, rfl, h1, h2⟩ := h
    exact RepL.drop n h2
theorem RepL.take {K : Frag} {A : AS} {H : Hp} : ∀ {ds : List D} {vs : List V} (n : Nat), RepL K A H ds vs → RepL K A H (ds.take n) (vs.take n)
  | ds, vs, 0, h => by simp [RepL]
  | [], vs, n + 1, h => by
    simp only [RepL] at h
    subst h
    simp [RepL]
  | d :: ds, vs, n + 1, h => by
    simp only [RepL] at h
    obtain ⟨v, r, rfl, h1, h2⟩ := h
    simp only [List.take_succ_cons, RepL]
    exact ⟨v, _, rfl, h1, RepL.take n h2⟩
theorem RepL.set {K : Frag} {A : AS} {H : Hp} {d : D} {v : V} (hd : Rep K A H d v) : ∀ {ds : List D} {vs : List V} (n : Nat), RepL K A H ds vs → RepL K A H (ds.set n d) (vs.set n v)
  | [], vs, n, h => by
    simp only [RepL] at h
    subst h
    simp [RepL]
  | d0 :: ds, vs, 0, h => by
    simp only [RepL] at h
    obtain ⟨w, r, rfl, h1, h2⟩ := h
    simp only [List.set_cons_zero, RepL]
    exact ⟨v, r, rfl, hd, h2⟩
  | d0 :: ds, vs, n + 1, h => by
    simp only [RepL] at h
    obtain ⟨w, r, rfl, h1, h2⟩ := h
    simp only [List.set_cons_succ, RepL]
    exact ⟨w, _, rfl, h1, RepL.set hd n h2⟩
theorem RepL.one {K : Frag} {A : AS} {H : Hp} {d : D} {v : V} (h : Rep K A H d v) : RepL K A H [d] [v] := by
  simp only [RepL]
  exact ⟨v, [], rfl, h, rfl⟩
theorem RepF.look {K : Frag} {A : AS} {H : Hp} {f : String} : ∀ {fs : List (String × D)} {vs : List (Str × V)}, RepF K A H fs vs →
    match fs.lookup f with | some d => ∃ v, vs.lookup (Str.ofString f) = some v ∧ Rep K A H d v | none => vs.lookup (Str.ofString f) = none
  | [], vs, h => by
    simp only [RepF] at h
    subst h
    rfl
  | (n, d) :: fs, vs, h => by
    simp only [RepF] at h
    obtain ⟨v, r, rfl, h1, h2⟩ := h
    by_cases e : f = n
    · subst e
      simp only [List.lookup_cons, beq_self_eq_true]
      exact ⟨v, rfl, h1⟩
    · have e2 : (Str.ofString f == Str.ofString n) = false := beq_eq_false_iff_ne.mpr fun q => e (ofS_inj q)
      have e3 : (f == n) = false := beq_eq_false_iff_ne.mpr e
      simp only [List.lookup_cons, e2, e3]
      exact RepF.look h2
theorem RepF.put {K : Frag} {A : AS} {H : Hp} {f : String} {d : D} {v : V} (hd : Rep K A H d v) : ∀ {fs : List (String × D)} {vs : List (Str × V)}, RepF K A H fs vs → RepF K A H (putF f d fs) (L2.putF (Str.ofString f) v vs)
  | [], vs, h => by
    simp only [RepF] at h
    subst h
    simp only [putF, L2.putF, RepF]
    exact ⟨v, [], rfl, hd, rfl⟩
  | (n, d0) :: fs, vs, h => by
    simp only [RepF] at h
    obtain ⟨w, r, rfl, h1, h2⟩ := h
    by_cases e : n = f
    · subst e
      simp only [putF, L2.putF, if_pos, RepF]
      exact ⟨v, r, rfl, hd, h2⟩
    · have e2 : ¬ Str.ofString n = Str.ofString f := fun q => e (ofS_inj q)
      simp only [putF, L2.putF, if_neg e, if_neg e2, RepF]
      exact ⟨w, _, rfl, h1, RepF.put hd h2⟩
theorem RepF.length {K : Frag} {A : AS} {H : Hp} : ∀ {fs : List (String × D)} {vs : List (Str × V)}, RepF K A H fs vs → fs.length = vs.length
  | [], vs, h => by
    simp only [RepF] at h
    subst h
    rfl
  | (n, d) :: fs, vs, h => by
    simp only [RepF] at h
    obtain ⟨v, r, rfl, h1, h2⟩ := h
    simp [RepF.length h2]
/-! ### the frame -/
/-- what a name's own object at a holds -/
def OwnAt (K : Frag) (A : AS) (H : Hp) (a : Addr) : D → Prop
  | .lst ds => ∃ vs, H a = some (.lst vs) ∧ RepL K A H ds vs
  | .ins c fs => ∃ dx fvs, H a = some (.ins (ca K c) dx fvs) ∧ RepF K A H fs fvs
  | .dic t kvs => DicAt K A H a t kvs
  | _ => False
theorem OwnAt.move {K : Frag} {A A' : AS} {H H' : Hp} {a : Addr} {d : D} (m : Mv A H A' H') (k : H' a = H a) (h : OwnAt K A H a d) : OwnAt K A' H' a d := by
  cases d with
  | lst ds =>
    obtain ⟨vs, e, r⟩ := h
    exact ⟨vs, k.trans e, RepL.move m _ _ r⟩
  | ins c fs =>
    obtain ⟨dx, fvs, e, r⟩ := h
    exact ⟨dx, fvs, k.trans e, RepF.move m _ _ r⟩
  | dic t kvs => exact DicAt.move m k h
  | _ => exact h
theorem OwnAt.obj {K : Frag} {A : AS} {H : Hp} {a : Addr} {d : D} (h : OwnAt K A H a d) : ∃ u, H a = some u ∧ ¬ still u ∧ ∀ fvs, u ≠ .xd fvs := by
  cases d with
  | lst ds =>
    obtain ⟨vs, e, _⟩ := h
    exact ⟨_, e, fun z => z, fun _ z => nomatch z⟩
  | ins c fs =>
    obtain ⟨dx, fvs, e, _⟩ := h
    exact ⟨_, e, fun z => z, fun _ z => nomatch z⟩
  | dic t kvs =>
    rcases h with ⟨_, ks, e, _⟩ | ⟨_, es, e, _⟩
    · exact ⟨_, e, fun z => z, fun _ z => nomatch z⟩
    · exact ⟨_, e, fun z => z, fun _ z => nomatch z⟩
  | _ => exact h.elim
/-- what is owned is a value for those who leave it alone -/
theorem OwnAt.rep {K : Frag} {A A' : AS} {H : Hp} {a : Addr} {d : D} (m : Mv A H A' H) (n : ¬ A' a) (h : OwnAt K A H a d) : Rep K A' H d (.ref a) := by
  cases d with
  | lst ds =>
    obtain ⟨vs, e, r⟩ := h
    simp only [Rep]
    exact ⟨a, vs, rfl, n, .inl e, RepL.move m _ _ r⟩
  | ins c fs =>
    obtain ⟨dx, fvs, e, r⟩ := h
    simp only [Rep]
    exact ⟨a, dx, fvs, rfl, n, e, RepF.move m _ _ r⟩
  | dic t kvs => exact rep_dic.mpr ⟨a, rfl, n, DicAt.move m rfl h⟩
  | _ => exact h.elim
abbrev OW := Nat → Option Addr
def AO (A : AS) (O : OW) : AS := fun a => A a ∨ ∃ i, O i = some a
/-- the heap at the entry; the object that slot 0 owns throughout (an __init__'s self) -/
structure Base where
  hp : Hp
  px : Option Addr
/-- what is known of a caught error: the slot of its name, where it stands, where its dict stands, what that holds -/
structure Xh where
  i : Nat
  a : Addr
  da : Addr
  fs : List (String × D)
/-- which names own; in an except suite: the caught error -/
structure Ow where
  f : Nat → Bool
  x : Option Xh
instance : CoeFun Ow (fun _ => Nat → Bool) := ⟨Ow.f⟩
@[reducible] def Ow.off (o : Ow) : Ow := ⟨fun i => match o.x with | some q => i == q.i | none => false, o.x⟩
structure XAt (K : Frag) (A : AS) (H : Hp) (σ : L2.St) (e : Env) (f : Nat → Bool) (q : Xh) : Prop where
  own : f q.i = true
  slot : σ[q.i]? = some (some (.ref q.a))
  no : ∀ d, e[q.i]? ≠ some (some d)
  xd : ∃ fvs, H q.da = some (.xd fvs) ∧ RepF K A H q.fs fvs
def XFact (K : Frag) (A : AS) (H : Hp) (σ : L2.St) (e : Env) (o : Ow) : Prop := ∀ q, o.x = some q → XAt K A H σ e o.f q
theorem XFact.none {K : Frag} {A : AS} {H : Hp} {σ : L2.St} {e : Env} {o : Ow} (h : o.x = none) : XFact K A H σ e o := fun q z => by
  rw [h] at z
  cases z
theorem XFact.move {K : Frag} {A A' : AS} {H H' : Hp} {σ σ' : L2.St} {e e' : Env} {o : Ow} (m : Mv A H A' H') (k : ∀ da fvs, H da = some (.xd fvs) → H' da = some (.xd fvs)) (s : ∀ i, o i = true → (∀ d, e[i]? ≠ some (some d)) → σ'[i]? = σ[i]? ∧ ∀ d, e'[i]? ≠ some (some d))
    (h : XFact K A H σ e o) : XFact K A' H' σ' e' o := fun q hq => by
  obtain ⟨h1, h2, h3, fvs, h4, h5⟩ := h q hq
  obtain ⟨s1, s2⟩ := s q.i h1 h3
  exact ⟨h1, s1.trans h2, s2, fvs, k _ _ h4, RepF.move m _ _ h5⟩
theorem XFact.heap {K : Frag} {A A' : AS} {H H' : Hp} {σ : L2.St} {e : Env} {o : Ow} (m : Mv A H A' H') (k : ∀ da fvs, H da = some (.xd fvs) → H' da = some (.xd fvs)) (h : XFact K A H σ e o) : XFact K A' H' σ e o := h.move m k fun i _ n => ⟨rfl, n⟩
/-- the frame's slots hold these data; ow: the names that own what they hold; H0: the heap at the entry -/
structure ER (K : Frag) (A : AS) (H0 : Base) (ow : Ow) (O : OW) (σ : L2.St) (H : Hp) (e : Env) : Prop where
  len : σ.length = e.length
  a0 : ∀ a, A a → H a ≠ none
  same : Same H0.hp H
  vals : ∀ i d, e[i]? = some (some d) → ow i = false → ∃ v, σ[i]? = some (some v) ∧ Rep K (AO A O) H d v
  owns : ∀ i d, e[i]? = some (some d) → ow i = true → ∃ a, O i = some a ∧ σ[i]? = some (some (.ref a)) ∧ OwnAt K (AO A O) H a d
  fresh : ∀ i a, O i = some a → H0.hp a = none ∧ H a ≠ none ∧ ¬ A a
  inj : ∀ i j a, O i = some a → O j = some a → i = j
  pin : ∀ a, H0.px = some a → O 0 = some a
  exq : XFact K (AO A O) H σ e ow
section
variable {K : Frag} {A : AS} {H0 : Base} {ow : Ow} {O : OW} {σ : L2.St} {H H' : Hp} {e : Env}
theorem ne_none {H H' : Hp} {a : Addr} (s : Same H H') (h : H a ≠ none) : H' a ≠ none := by
  cases q : H a with
  | none => exact absurd q h
  | some o =>
    rw [s a o q]
    exact fun z => nomatch z
theorem ER.there (R : ER K A H0 ow O σ H e) : ∀ a, AO A O a → H a ≠ none := fun a h => by
  rcases h with h | ⟨i, h⟩
  · exact R.a0 a h
  · exact (R.fresh i a h).2.1
theorem ER.to (R : ER K A H0 ow O σ H e) (s : Same H H') : ER K A H0 ow O σ H' e :=
  ⟨R.len, fun a h => ne_none s (R.a0 a h), R.same.trans s, fun i d h1 h2 => let ⟨v, q, r⟩ := R.vals i d h1 h2; ⟨v, q, Rep.move (Mv.same s) d v r⟩,
    fun i d h1 h2 => let ⟨a, q, q2, r⟩ := R.owns i d h1 h2; ⟨a, q, q2, r.move (Mv.same s) (by
      cases z : H a with
      | none => exact absurd z (R.fresh i a q).2.1
      | some o => exact s a o z)⟩,
    fun i a h => ⟨(R.fresh i a h).1, ne_none s (R.fresh i a h).2.1, (R.fresh i a h).2.2⟩, R.inj, R.pin, R.exq.heap (Mv.same s) fun da fvs e => s _ _ e⟩
/-- a name takes a value -/
theorem ER.set (R : ER K A H0 ow O σ H e) {i : Nat} {d : D} {v : V} (hi : ow i = false) (r : Rep K (AO A O) H d v) : ER K A H0 ow O (σ.set i (some v)) H (e.set i (some d)) := by
  refine ⟨by simp [R.len], R.a0, R.same, fun j d' h1 h2 => ?_, fun j d' h1 h2 => ?_, R.fresh, R.inj, R.pin, R.exq.move Mv.refl (fun _ _ e => e) fun j hj n => ?_⟩
  rotate_right
  · have hne : i ≠ j := fun z => by
      rw [z, hj] at hi
      cases hi
    rw [List.getElem?_set_ne hne, List.getElem?_set_ne hne]
    exact ⟨rfl, n⟩
  · by_cases hj : i = j
    · subst hj
      have hl : i < e.length := by
        have := (List.getElem?_eq_some_iff.mp h1).1
        simpa using this
      rw [List.getElem?_set_self hl] at h1
      cases h1
      exact ⟨v, List.getElem?_set_self (by rw [R.len]; exact hl), r⟩
    · rw [List.getElem?_set_ne hj] at h1
      rw [List.getElem?_set_ne hj]
      exact R.vals j d' h1 h2
  · have hj : i ≠ j := fun z => by
      subst z
      rw [hi] at h2
      cases h2
    rw [List.getElem?_set_ne hj] at h1
    rw [List.getElem?_set_ne hj]
    exact R.owns j d' h1 h2
/-- names forgotten -/
theorem ER.sub {e' : Env} {σ' : L2.St} (R : ER K A H0 ow O σ H e) (hl : σ'.length = e'.length) (h : ∀ (i : Nat) (d : D), e'[i]? = some (some d) → e[i]? = some (some d) ∧ σ'[i]? = σ[i]?) (hx : ∀ q : Xh, ow.x = some q → σ'[q.i]? = σ[q.i]?) : ER K A H0 ow O σ' H e' :=
  ⟨hl, R.a0, R.same, fun i d h1 h2 => by rw [(h i d h1).2]; exact R.vals i d (h i d h1).1 h2, fun i d h1 h2 => by rw [(h i d h1).2]; exact R.owns i d (h i d h1).1 h2, R.fresh, R.inj, R.pin, fun q hq => by
    obtain ⟨h1, h2, h3, h4⟩ := R.exq q hq
    exact ⟨h1, (hx q hq).trans h2, fun d z => h3 d (h _ d z).1, h4⟩⟩
end
theorem wipe_env (vs : List Nat) (e : Env) (i : Nat) (d : D) (h : (wipe e vs)[i]? = some (some d)) : e[i]? = some (some d) ∧ i ∉ vs := by
  induction vs with
  | nil => exact ⟨h, by simp⟩
  | cons j r ih =>
    unfold wipe at h
    by_cases hj : j = i
    · subst hj
      by_cases hl : j < (wipe e r).length
      · rw [List.getElem?_set_self hl] at h
        cases h
      · rw [List.getElem?_eq_none (by simp; omega)] at h
        cases h
    · rw [List.getElem?_set_ne hj] at h
      obtain ⟨a, b⟩ := ih h
      exact ⟨a, by simp [b, Ne.symm hj]⟩
theorem wipe_len (vs : List Nat) (e : Env) : (wipe e vs).length = e.length := by
  induction vs with
  | nil => rfl
  | cons j r ih => unfold wipe; simp [ih]
theorem ER.wipe {K : Frag} {A : AS} {H0 : Base} {ow : Ow} {O : OW} {σ : L2.St} {H : Hp} {e : Env} (R : ER K A H0 ow O σ H e) (vs : List Nat) (hx : ow.x = none) : ER K A H0 ow O (L2.wipe σ vs) H (Py.wipe e vs) :=
  R.sub (by rw [L2.wipe_length, wipe_len, R.len]) (fun i d h => ⟨(wipe_env vs e i d h).1, L2.wipe_out (wipe_env vs e i d h).2⟩) fun q hq => by
    rw [hx] at hq
    cases hq
/-! ### readings -/
def Out {α : Type} (r : Res α) (good : α → Prop) (bad : String → List (String × D) → Prop) : Prop := match r with
  | .ok a => good a
  | .exc c fs => bad c fs
  | .stuck => False
  | .pick n k => ∀ i, i ≤ n → Out (k i) good bad
/-- a may come of it -/
def Res.leaf {α : Type} (a : α) : Res α → Prop
  | .ok b => b = a
  | .exc _ _ => False
  | .stuck => False
  | .pick n k => ∃ i, i ≤ n ∧ Res.leaf a (k i)
theorem Out.bind {α β : Type} {r : Res α} {f : α → Res β} {good : β → Prop} {bad : String → List (String × D) → Prop} (h : Out (r >>= f) good bad) : Out r (fun a => Out (f a) good bad) bad := by
  induction r with
  | ok a => exact h
  | exc c fs => exact h
  | stuck => exact h
  | pick n k ih =>
    rw [bind_pick] at h
    exact fun i hi => ih i (h i hi)
theorem Out.imp {α : Type} {r : Res α} {good good' : α → Prop} {bad bad' : String → List (String × D) → Prop} (h : Out r good bad) (hg : ∀ a, Res.leaf a r → good a → good' a) (hb : ∀ c fs, bad c fs → bad' c fs) : Out r good' bad' := by
  induction r with
  | ok a => exact hg a rfl h
  | exc c fs => exact hb c fs h
  | stuck => exact h
  | pick n k ih => exact fun i hi => ih i (h i hi) fun a l => hg a ⟨i, hi, l⟩
theorem Out.good {α : Type} {r : Res α} {good good' : α → Prop} {bad : String → List (String × D) → Prop} (h : Out r good bad) (hg : ∀ a, good a → good' a) : Out r good' bad := h.imp (fun a _ => hg a) fun _ _ x => x
theorem Out.noexc {α : Type} {r : Res α} {good : α → Prop} {bad bad' : String → List (String × D) → Prop} (h : Out (noexc r) good bad) : Out r good bad' := by
  induction r with
  | ok a => exact h
  | exc c fs => exact h.elim
  | stuck => exact h
  | pick n k ih => exact fun i hi => ih i (h i hi)
theorem Out.catch {α : Type} {g : String → List (String × D) → Res α} {r : Res α} {good : α → Prop} {bad : String → List (String × D) → Prop} (h : Out (Res.catch_ g r) good bad) : Out r good (fun c fs => Out (g c fs) good bad) := by
  induction r with
  | ok a => exact h
  | exc c fs => exact h
  | stuck => exact h
  | pick n k ih => exact fun i hi => ih i (h i hi)
abbrev Nev : String → List (String × D) → Prop := fun _ _ => False
theorem Out.void {α : Type} {r : Res α} (h : Out r (fun _ => False) Nev) : False := by
  induction r with
  | ok a => exact h
  | exc c fs => exact h
  | stuck => exact h
  | pick n k ih => exact ih 0 (h 0 (Nat.zero_le _))
/-- what an exception must show that leaves an expression -/
def badE (K : Frag) (W : WX) (A : AS) (O : OW) (σ : L2.St) (H : Hp) (c : String) (fs : List (String × D)) : Prop :=
  ∀ da H' fvs, Same H H' → H' da = some (.xd fvs) → RepF K (AO A O) H' fs fvs → W (.ref (ca K c)) (some da) σ H'
theorem badE.to {K : Frag} {W : WX} {A : AS} {O : OW} {σ : L2.St} {H H1 : Hp} (s : Same H H1) {c : String} {fs : List (String × D)} (h : badE K W A O σ H c fs) : badE K W A O σ H1 c fs := fun da H' fvs s' => h da H' fvs (s.trans s')
theorem Out.to {K : Frag} {W : WX} {A : AS} {O : OW} {σ : L2.St} {H H1 : Hp} {α : Type} {r : Res α} {good : α → Prop} (s : Same H H1) (h : Out r good (badE K W A O σ H)) : Out r good (badE K W A O σ H1) := h.imp (fun _ _ x => x) fun _ _ x => x.to s
/-- a value that may be a name's own list or object: what is within it is clean -/
def RepW (K : Frag) (A : AS) (H : Hp) : D → V → Prop
  | .lst xs, v => ∃ a vs, v = .ref a ∧ Rd H a (.lst vs) ∧ RepL K A H xs vs
  | .ins c fs, v => ∃ a dx fvs, v = .ref a ∧ H a = some (.ins (ca K c) dx fvs) ∧ RepF K A H fs fvs
  | .dic t kvs, v => ∃ a, v = .ref a ∧ DicAt K A H a t kvs
  | d, v => Rep K A H d v
theorem RepW.of {K : Frag} {A : AS} {H : Hp} {d : D} {v : V} (h : Rep K A H d v) : RepW K A H d v := by
  cases d with
  | lst xs =>
    simp only [Rep] at h
    obtain ⟨a, vs, e, _, q, r⟩ := h
    exact ⟨a, vs, e, q, r⟩
  | ins c fs =>
    simp only [Rep] at h
    obtain ⟨a, dx, fvs, e, _, q, r⟩ := h
    exact ⟨a, dx, fvs, e, q, r⟩
  | dic t kvs =>
    obtain ⟨a, e, _, q⟩ := rep_dic.mp h
    exact ⟨a, e, q⟩
  | _ => exact h
theorem RepW.none {K : Frag} {A : AS} {H : Hp} {d : D} {v : V} (h : RepW K A H d v) : Rep K (fun _ => False) H d v := by
  have z : Mv A H (fun _ => False) H := Mv.less fun _ x => x.elim
  cases d with
  | lst xs =>
    obtain ⟨a, vs, e, q, r⟩ := h
    simp only [Rep]
    exact ⟨a, vs, e, fun x => x, q, RepL.move z _ _ r⟩
  | ins c fs =>
    obtain ⟨a, dx, fvs, e, q, r⟩ := h
    simp only [Rep]
    exact ⟨a, dx, fvs, e, fun x => x, q, RepF.move z _ _ r⟩
  | dic t kvs =>
    obtain ⟨a, e, q⟩ := h
    exact rep_dic.mpr ⟨a, e, fun x => x, q.move z rfl⟩
  | _ => exact Rep.move z _ _ h
/-- a relation between data and values, under what is to be avoided -/
abbrev RR := AS → Hp → D → V → Prop
/-- an expression that computes m -/
def tG (R : RR) (K : Frag) (W : WX) (ow : Ow) (m : EM) : TE := fun σ H Q => ∃ A H0 O e, ER K A H0 ow O σ H e ∧
  Out (m e) (fun d => ∀ v H', Same H H' → R (AO A O) H' d v → Q v H') (badE K W A O σ H)
/-- .. clean -/
abbrev tE (K : Frag) (W : WX) (ow : Ow) (m : EM) : TE := tG (Rep K) K W ow m
/-- .. to be read only -/
abbrev tW (K : Frag) (W : WX) (ow : Ow) (m : EM) : TE := tG (RepW K) K W ow m
/-- .. a new list -/
def tF (K : Frag) (W : WX) (ow : Ow) (m : EM) : TE := fun σ H Q => ∃ A H0 O e, ER K A H0 ow O σ H e ∧
  Out (m e) (fun d => ∀ a H', H a = none → Same H H' → OwnAt K (fun b => AO A O b ∨ b = a) H' a d → Q (.ref a) H') (badE K W A O σ H)
def tT (K : Frag) (W : WX) (ow : Ow) (m : TM) : TT := fun σ H Q => ∃ A H0 O e, ER K A H0 ow O σ H e ∧
  Out (m e) (fun b => ∀ H', Same H H' → Q b H') (badE K W A O σ H)
def tA (R : RR) (K : Frag) (W : WX) (ow : Ow) (m : AM) : TA := fun σ H Q => ∃ A H0 O e, ER K A H0 ow O σ H e ∧
  Out (m e) (fun ds => ∀ vs H', Same H H' → Paired (fun v d => R (AO A O) H' d v) vs ds → Q vs H') (badE K W A O σ H)
section
variable {X : Cx} {K : Frag} {W : WX} {A : AS} {H0 : Base} {ow : Ow}
theorem PE.of {e : Expr} {t t' : TE} (h : PE X e t) (k : ∀ σ H Q, t' σ H Q → t σ H Q) : PE X e t' := ⟨fun pins s σ H Q I q => h.run pins s σ H Q I (k σ H Q q)⟩
theorem PT.of {e : Expr} {t t' : TT} (h : PT X e t) (k : ∀ σ H Q, t' σ H Q → t σ H Q) : PT X e t' := ⟨fun pins s σ H Q I q => h.run pins s σ H Q I (k σ H Q q)⟩
theorem PW.of {e : Expr} {t t' : TT} (h : PW X e t) (k : ∀ σ H Q, t' σ H Q → t σ H Q) : PW X e t' := ⟨fun wh pins s σ H Q I q => h.run wh pins s σ H Q I (k σ H Q q)⟩
theorem PA.of {e : List Expr} {t t' : TA} (h : PA X e t) (k : ∀ σ H Q, t' σ H Q → t σ H Q) : PA X e t' := ⟨fun pos pins s σ H Q I q => h.run pos pins s σ H Q I (k σ H Q q)⟩
theorem PS.of {e : Stmt} {t t' : TS} (h : PS X e t) (k : ∀ D σ H, t' D σ H → t D σ H) : PS X e t' := ⟨fun pins s σ H D I q => h.run pins s σ H D I (k D σ H q)⟩
theorem PSs.of {e : List Stmt} {t t' : TS} (h : PSs X e t) (k : ∀ D σ H, t' D σ H → t D σ H) : PSs X e t' := ⟨fun pins s σ H D I q => h.run pins s σ H D I (k D σ H q)⟩
theorem w_of {e : Expr} {m : EM} (h : PE X e (tE K W ow m)) : PE X e (tW K W ow m) := PE.of h fun σ H Q ⟨A, H0, O, en, R, q⟩ => ⟨A, H0, O, en, R, q.good fun d k v H' s r => k v H' s (RepW.of r)⟩
theorem e_of {e : Expr} {m : EM} (h : PE X e (tF K W ow m)) : PE X e (tE K W ow m) := PE.of h fun σ H Q ⟨A, H0, O, en, R, q⟩ => ⟨A, H0, O, en, R, q.good fun d k a H' n s r => by
  refine k (.ref a) H' s ?_
  have na : ¬ AO A O a := fun z => R.there a z n
  have mv : Mv (fun b => AO A O b ∨ b = a) H' (AO A O) H' := Mv.less fun b x => .inl x
  exact r.rep mv na⟩
/-! names, constants -/
theorem x_var {i : Nat} {e : Expr} (h : PE X e (tVar i)) (hi : ow i = false) : PE X e (tE K W ow (var i)) := PE.of h fun σ H Q ⟨A, H0, O, en, R, q⟩ => by
  unfold var at q
  split at q
  · rename_i d hd
    obtain ⟨v, e1, r⟩ := R.vals i d hd hi
    exact ⟨v, e1, q v H (Same.refl H) r⟩
  · exact q.elim
/-- a name's own list, read -/
theorem x_own {i : Nat} {e : Expr} (h : PE X e (tVar i)) : PE X e (tW K W ow (var i)) := PE.of h fun σ H Q ⟨A, H0, O, en, R, q⟩ => by
  unfold var at q
  split at q
  · rename_i d hd
    cases hi : ow i with
    | false =>
      obtain ⟨v, e1, r⟩ := R.vals i d hd hi
      exact ⟨v, e1, q v H (Same.refl H) (RepW.of r)⟩
    | true =>
      obtain ⟨a, _, e1, r⟩ := R.owns i d hd hi
      refine ⟨.ref a, e1, q _ H (Same.refl H) ?_⟩
      cases d with
      | lst ds =>
        obtain ⟨vs, e2, r⟩ := r
        exact ⟨a, vs, rfl, .inl e2, r⟩
      | ins c fs =>
        obtain ⟨dx, fvs, e2, r⟩ := r
        exact ⟨a, dx, fvs, rfl, e2, r⟩
      | dic t kvs => exact ⟨a, rfl, r⟩
      | _ => exact r.elim
  · exact q.elim
/-- data that need no object -/
def flat : D → Option V
  | .non => some .non
  | .bl b => some (.bl b)
  | .int i => some (.int i)
  | .str s => some (.str (Str.ofString s))
  | _ => none
theorem flat_rep {d : D} {v : V} (h : flat d = some v) (A : AS) (H : Hp) : Rep K A H d v := by
  cases d <;> simp only [flat, Option.some.injEq] at h <;> first | exact h.symm | cases h
theorem x_cst {e : Expr} {d : D} {v : V} (h : PE X e (tC v)) (hf : flat d = some v) : PE X e (tE K W ow (cst d)) := PE.of h fun σ H Q ⟨A, H0, O, en, R, q⟩ => q v H (Same.refl H) (flat_rep hf _ _)
theorem x_int {i j pos} : PE X (.Constant (.int i) j pos) (tE K W ow (cst (.int i))) := x_cst pe_int rfl
theorem x_bl {i j pos} : PE X (.Constant (.bool i) j pos) (tE K W ow (cst (.bl i))) := x_cst pe_bl rfl
theorem x_non {j pos} : PE X (.Constant .none j pos) (tE K W ow (cst .non)) := x_cst pe_non rfl
theorem x_str {s : String} {j pos} : PE X (.Constant (.str (Str.ofString s)) j pos) (tE K W ow (cst (.str s))) := x_cst pe_str rfl
end
end Py
/-! Dicts: their keys in the heap, look-ups, stores. -/
namespace Py
open PySem L2
/-! ### keys -/
mutual
theorem hk_nk : ∀ (n : Nat) (d : D), hk n d = true → ∃ k, nk d = some k ∧ k.depth ≤ n
  | n, .non, _ => ⟨.none, by simp [nk], by simp [NestedKey.depth]⟩
  | n, .bl b, _ => ⟨.num (b2i b), by simp [nk], by simp [NestedKey.depth]⟩
  | n, .int i, _ => ⟨.num i, by simp [nk], by simp [NestedKey.depth]⟩
  | n + 1, .tup xs, h => by
    simp only [hk] at h
    obtain ⟨ks, h1, h2⟩ := hk_nkL n xs h
    exact ⟨.tup ks, by simp [nk, h1], by simp only [NestedKey.depth]; omega⟩
  | 0, .tup xs, h => by simp [hk] at h
  | n, .str _, h => by cases n <;> simp [hk] at h
  | n, .lst _, h => by cases n <;> simp [hk] at h
  | n, .dic _ _, h => by cases n <;> simp [hk] at h
  | n, .ins _ _, h => by cases n <;> simp [hk] at h
  | n, .drw _, h => by cases n <;> simp [hk] at h
theorem hk_nkL : ∀ (n : Nat) (ds : List D), ds.all (hk n) = true → ∃ ks, nkL ds = some ks ∧ NestedKey.depthAll ks ≤ n
  | n, [], _ => ⟨[], by simp [nkL], by simp [NestedKey.depthAll]⟩
  | n, d :: ds, h => by
    simp only [List.all_cons, Bool.and_eq_true] at h
    obtain ⟨k, h1, h2⟩ := hk_nk n d h.1
    obtain ⟨ks, h3, h4⟩ := hk_nkL n ds h.2
    exact ⟨k :: ks, by simp [nkL, h1, h3], by simp only [NestedKey.depthAll]; omega⟩
end
theorem nkL_cons {d : D} {ds : List D} {ks : List NestedKey} (h : nkL (d :: ds) = some ks) : ∃ k r, nk d = some k ∧ nkL ds = some r ∧ ks = k :: r := by
  simp only [nkL] at h
  split at h
  · rename_i k r e1 e2
    exact ⟨k, r, e1, e2, (Option.some.inj h).symm⟩
  · cases h
mutual
theorem nk_hash (w w' : World) : ∀ (d : D) (k : NestedKey), nk d = some k → k.hash w = k.hash w'
  | .non, k, h => by simp only [nk, Option.some.injEq] at h; subst h; simp [NestedKey.hash]
  | .bl b, k, h => by simp only [nk, Option.some.injEq] at h; subst h; simp [NestedKey.hash]
  | .int b, k, h => by simp only [nk, Option.some.injEq] at h; subst h; simp [NestedKey.hash]
  | .tup xs, k, h => by
    simp only [nk, Option.map_eq_some_iff] at h
    obtain ⟨ks, h1, rfl⟩ := h
    simp only [NestedKey.hash]
    rw [nk_hashL w w' xs ks h1]
  | .str _, k, h => by simp [nk] at h
  | .lst _, k, h => by simp [nk] at h
  | .dic _ _, k, h => by simp [nk] at h
  | .ins _ _, k, h => by simp [nk] at h
  | .drw _, k, h => by simp [nk] at h
theorem nk_hashL (w w' : World) : ∀ (ds : List D) (ks : List NestedKey), nkL ds = some ks → NestedKey.hashes w ks = NestedKey.hashes w' ks
  | [], ks, h => by simp only [nkL, Option.some.injEq] at h; subst h; simp [NestedKey.hashes]
  | d :: ds, ks, h => by
    obtain ⟨k, r, h1, h2, rfl⟩ := nkL_cons h
    simp only [NestedKey.hashes]
    rw [nk_hash w w' d k h1, nk_hashL w w' ds r h2]
end
mutual
theorem nk_eqv : ∀ (d e : D) (k j : NestedKey), nk d = some k → nk e = some j → eqv d e = NestedKey.beq k j
  | .non, e, k, j, h, h' => by
    simp only [nk, Option.some.injEq] at h
    subst h
    cases e <;> simp only [nk, Option.some.injEq, reduceCtorEq, Option.map_eq_some_iff] at h' <;> first | (subst h'; simp [eqv, NestedKey.beq]) | (obtain ⟨_, _, rfl⟩ := h'; simp [eqv, NestedKey.beq])
  | .bl b, e, k, j, h, h' => by
    simp only [nk, Option.some.injEq] at h
    subst h
    cases e <;> simp only [nk, Option.some.injEq, reduceCtorEq, Option.map_eq_some_iff] at h' <;> first | (subst h'; simp [eqv, NestedKey.beq]; try rfl) | (obtain ⟨_, _, rfl⟩ := h'; simp [eqv, NestedKey.beq])
    rename_i c
    cases b <;> cases c <;> simp [b2i]
  | .int i, e, k, j, h, h' => by
    simp only [nk, Option.some.injEq] at h
    subst h
    cases e <;> simp only [nk, Option.some.injEq, reduceCtorEq, Option.map_eq_some_iff] at h' <;> first | (subst h'; simp [eqv, NestedKey.beq]; try rfl) | (obtain ⟨_, _, rfl⟩ := h'; simp [eqv, NestedKey.beq])
  | .tup xs, e, k, j, h, h' => by
    simp only [nk, Option.map_eq_some_iff] at h
    obtain ⟨ks, h1, rfl⟩ := h
    cases e <;> simp only [nk, Option.some.injEq, reduceCtorEq, Option.map_eq_some_iff] at h' <;> first | (subst h'; simp [eqv, NestedKey.beq]; done) | skip
    rename_i ys
    obtain ⟨js, h2, rfl⟩ := h'
    simp only [eqv, NestedKey.beq]
    exact nk_eqvL xs ys ks js h1 h2
  | .str _, e, k, j, h, _ => by simp [nk] at h
  | .lst _, e, k, j, h, _ => by simp [nk] at h
  | .dic _ _, e, k, j, h, _ => by simp [nk] at h
  | .ins _ _, e, k, j, h, _ => by simp [nk] at h
  | .drw _, e, k, j, h, _ => by simp [nk] at h
theorem nk_eqvL : ∀ (ds es : List D) (ks js : List NestedKey), nkL ds = some ks → nkL es = some js → eqv.eqvL ds es = NestedKey.beqAll ks js
  | [], [], ks, js, h, h' => by
    simp only [nkL, Option.some.injEq] at h h'
    subst h h'
    simp [eqv.eqvL, NestedKey.beqAll]
  | [], e :: es, ks, js, h, h' => by
    obtain ⟨k, r, h1, h2, rfl⟩ := nkL_cons h'
    simp only [nkL, Option.some.injEq] at h
    subst h
    simp [eqv.eqvL, NestedKey.beqAll]
  | d :: ds, [], ks, js, h, h' => by
    obtain ⟨k, r, h1, h2, rfl⟩ := nkL_cons h
    simp only [nkL, Option.some.injEq] at h'
    subst h'
    simp [eqv.eqvL, NestedKey.beqAll]
  | d :: ds, e :: es, ks, js, h, h' => by
    obtain ⟨k, r, h1, h2, rfl⟩ := nkL_cons h
    obtain ⟨k', r', h1', h2', rfl⟩ := nkL_cons h'
    simp only [eqv.eqvL, NestedKey.beqAll]
    rw [nk_eqv d e k k' h1 h1', nk_eqvL ds es r r' h2 h2']
end
theorem nk_eq {d e : D} {k j : NestedKey} (h : nk d = some k) (h' : nk e = some j) : eqv d e = decide (k = j) := by
  rw [NestedKey.decide_eq]
  exact nk_eqv d e k j h h'
theorem keyT {k : D} (h : keyOk true k = true) : ∃ c, nk k = some c ∧ c.depth ≤ 8 := by
  cases k <;> simp only [keyOk, reduceCtorEq] at h <;> first | cases h | exact hk_nk 8 _ h
theorem keyK {k : D} (h : keyOk false k = true) : ∃ c, kvK k = some c := by
  cases k <;> first | exact ⟨_, rfl⟩ | simp [keyOk] at h
theorem kv_eq {d e : D} {k j : Key} (h : kvK d = some k) (h' : kvK e = some j) : eqv d e = decide (k = j) := by
  cases d <;> simp only [kvK, Option.some.injEq, reduceCtorEq] at h <;> subst h <;> cases e <;> simp only [kvK, Option.some.injEq, reduceCtorEq] at h' <;> subst h' <;> simp [eqv]
  · rename_i a b
    by_cases q : a = b <;> simp [q]
  · rename_i a b
    by_cases q : a = b
    · simp [q]
    · have q2 : ¬ Str.ofString a = Str.ofString b := fun z => q (ofS_inj z)
      simp [q, q2]
theorem kv_rep {K : Frag} {A : AS} {H : Hp} {d : D} {k : Key} {v : V} (h : kvK d = some k) (r : Rep K A H d v) : v = kV k := by
  cases d <;> simp only [kvK, Option.some.injEq, reduceCtorEq] at h <;> subst h <;> simp only [Rep] at r <;> exact r
/-! ### in the heap -/
section
variable {X : Cx} {pins : List (Addr × Obj)} {σ : L2.St} {H : Hp} {s : Shared} {A : AS} {a : Addr}
mutual
theorem nest_of (I : Inv X pins σ H s) : ∀ (d : D) (v : V) (u : Value) (k : NestedKey), nk d = some k → Rep X.K A H d v → RelV v u → NestedIs s.heap k u
  | .non, v, u, k, h, r, e => by
    simp only [nk, Option.some.injEq] at h
    simp only [Rep] at r
    subst h r
    cases (show u = Value.none from e)
    exact .none
  | .bl b, v, u, k, h, r, e => by
    simp only [nk, Option.some.injEq] at h
    simp only [Rep] at r
    subst h r
    cases (show u = Value.bool b from e)
    exact .bool (by cases b <;> rfl)
  | .int i, v, u, k, h, r, e => by
    simp only [nk, Option.some.injEq] at h
    simp only [Rep] at r
    subst h r
    obtain ⟨t, rfl⟩ := (show ∃ t, u = Value.int i t from e)
    exact .int _ _
  | .tup xs, v, u, k, h, r, e => by
    simp only [nk, Option.map_eq_some_iff] at h
    obtain ⟨ks, h1, rfl⟩ := h
    simp only [Rep] at r
    obtain ⟨b, vs, rfl, q, r⟩ := r
    cases (show u = Value.ref b from e)
    obtain ⟨its, rv, ⟨o, g1, g2, n, g3⟩, _⟩ := I.tuple q
    exact .tup g1 g2 g3 (by simpa using nest_ofL I xs vs its ks h1 r rv)
  | .str _, v, u, k, h, _, _ => by simp [nk] at h
  | .lst _, v, u, k, h, _, _ => by simp [nk] at h
  | .dic _ _, v, u, k, h, _, _ => by simp [nk] at h
  | .ins _ _, v, u, k, h, _, _ => by simp [nk] at h
  | .drw _, v, u, k, h, _, _ => by simp [nk] at h
theorem nest_ofL (I : Inv X pins σ H s) : ∀ (ds : List D) (vs : List V) (us : List Value) (ks : List NestedKey), nkL ds = some ks → RepL X.K A H ds vs → Vals vs us → NestedAll s.heap ks us
  | [], vs, us, ks, h, r, e => by
    simp only [nkL, Option.some.injEq] at h
    simp only [RepL] at r
    subst h r
    cases e
    exact .nil
  | d :: ds, vs, us, ks, h, r, e => by
    obtain ⟨k, r', h1, h2, rfl⟩ := nkL_cons h
    simp only [RepL] at r
    obtain ⟨v, rs, rfl, q1, q2⟩ := r
    cases e with
    | cons e1 e2 => exact .cons (nest_of I d v _ k h1 q1 e1) (nest_ofL I ds rs _ r' h2 q2 e2)
end
theorem is_of (I : Inv X pins σ H s) {k : D} {c : NestedKey} {b : Addr} (h : keyOk true k = true) (hc : nk k = some c) (r : Rep X.K A H k (.ref b)) : (nestedKind X.prog X.w).is s.heap c b := by
  obtain ⟨c', h1, h2⟩ := keyT h
  rw [hc] at h1
  cases h1
  exact ⟨nest_of I k _ _ c hc r rfl, h2⟩
/-! ### look-ups -/
abbrev PT3 : List (NestedKey × Addr × V) → List (NestedKey × Addr × Value) → Prop := Paired fun p q => p.1 = q.1 ∧ p.2.1 = q.2.1 ∧ RelV p.2.2 q.2.2
theorem find_T {K : Frag} {k : D} {c : NestedKey} (hc : nk k = some c) : ∀ {kvs : List (D × D)} {es : List (NestedKey × Addr × V)} {xs : List (NestedKey × Addr × Value)}, RepT K A H kvs es → PT3 es xs →
    match find k kvs with | some d => ∃ b u v, atKey xs c = some (b, u) ∧ RelV v u ∧ Rep K A H d v | none => atKey xs c = none
  | [], es, xs, r, p => by
    simp only [RepT] at r
    subst r
    cases p
    rfl
  | (k0, d0) :: kvs, es, xs, r, p => by
    simp only [RepT] at r
    obtain ⟨c0, b, v, q, rfl, ⟨h0, _⟩, h1, h2, h3⟩ := r
    cases p with
    | @cons _ y _ ys hp t =>
      obtain ⟨p1, p2, p3⟩ := hp
      simp only [find, nk_eq h0 hc]
      have p1' : c0 = y.1 := p1
      by_cases e : c0 = c
      · rw [decide_eq_true e]
        refine ⟨y.2.1, y.2.2, v, ?_, p3, h2⟩
        unfold atKey
        rw [List.find?_cons_of_pos (by simpa using p1'.symm.trans e)]
        rfl
      · rw [decide_eq_false e]
        have e2 : atKey (y :: ys) c = atKey ys c := by
          unfold atKey
          rw [List.find?_cons_of_neg (by simpa using fun z => e (p1'.trans z))]
        rw [e2]
        exact find_T hc h3 t
theorem find_K {K : Frag} {k : D} {c : Key} (hc : kvK k = some c) : ∀ {kvs : List (D × D)} {ks : List (Key × V)}, RepK K A H kvs ks →
    match find k kvs with | some d => ∃ v, valV ks c = some v ∧ Rep K A H d v | none => valV ks c = none
  | [], ks, r => by
    simp only [RepK] at r
    subst r
    rfl
  | (k0, d0) :: kvs, ks, r => by
    simp only [RepK] at r
    obtain ⟨c0, v, q, rfl, h0, h2, h3⟩ := r
    simp only [find, kv_eq h0 hc]
    by_cases e : c0 = c
    · rw [decide_eq_true e, valV_pos (p := (c0, v)) e]
      exact ⟨v, rfl, h2⟩
    · rw [decide_eq_false e, valV_neg (p := (c0, v)) e]
      exact find_K hc h3
theorem dic_rd (I : Inv X pins σ H s) {es : List (NestedKey × Addr × V)} {kvs : List (D × D)} (e : H a = some (dicT a es)) (r : RepT X.K A H kvs es) : es.length ≤ sizeLine ∧ (a == sysModules) = false ∧ ∃ xs, PT3 es xs ∧ s.heap.DictOfH (nestedKind X.prog X.w) a xs ∧
    ∃ o en ep, s.heap.get? a = some o ∧ o.ExactDict ∧ o.data = .dict en ep ∧ (∀ w : World, en.toList = xs.map (entW w)) ∧ (xs.map (·.1)).Nodup := by
  obtain ⟨⟨h1, h2, xs, h3, o, en, ep, g1, g2, g3, g4, g5⟩, _, _⟩ := (show ObjOk X.prog X.w H s.heap a (dicT a es) from I.hok a _ e)
  refine ⟨h2, h1, xs, h3, ⟨o, en, ep, g1, g2, g3, g4 X.w, ?_, g5⟩, o, en, ep, g1, g2, g3, g4, g5⟩
  have all : ∀ {kvs : List (D × D)} {es : List (NestedKey × Addr × V)} {xs : List (NestedKey × Addr × Value)}, RepT X.K A H kvs es → PT3 es xs → ∀ x ∈ xs, (nestedKind X.prog X.w).is s.heap x.1 x.2.1 := by
    intro kvs
    induction kvs with
    | nil =>
      intro es xs r p
      simp only [RepT] at r
      subst r
      cases p
      intro x hx
      cases hx
    | cons kd kvs ih =>
      intro es xs r p
      obtain ⟨k0, d0⟩ := kd
      simp only [RepT] at r
      obtain ⟨c0, b, v, q, rfl, ⟨h0, hk0⟩, h1, h2, h3⟩ := r
      cases p with
      | cons hp t =>
        obtain ⟨p1, p2, p3⟩ := hp
        intro x hx
        rcases List.mem_cons.mp hx with z | hx
        · subst z
          have := is_of I hk0 h0 h1
          have p1' : c0 = x.1 := p1
          have p2' : b = x.2.1 := p2
          rw [p1', p2'] at this
          exact this
        · exact ih h3 t x hx
  exact all r h3
theorem dic_type (I : Inv X pins σ H s) {t : Bool} {kvs : List (D × D)} (g : DicAt X.K A H a t kvs) : s.TypeIs (.ref a) "dict" := by
  rcases g with ⟨rfl, ks, e, r⟩ | ⟨rfl, es, e, r⟩
  · obtain ⟨_, _, vs, _, dd⟩ := dk_of I.hok e
    exact dd.typeIs
  · obtain ⟨z, hsm, xs, rel, dd, _⟩ := dic_rd I e r
    exact dd.typeIs
/-- len(d) -/
theorem dic_len {B : Around} {E : Value → Shared → Prop} {t : Bool} {kvs : List (D × D)} {Q : Value → Shared → Prop} (I : Inv X pins σ H s) (g : DicAt X.K A H a t kvs) (hl : ∀ {kvs : List (D × D)} {es : List (NestedKey × Addr × V)}, RepT X.K A H kvs es → es.length = kvs.length) (hl2 : ∀ {kvs : List (D × D)} {es : List (Key × V)}, RepK X.K A H kvs es → es.length = kvs.length)
    (h : ∀ t' s', Inv X pins σ H s' → Q (.int kvs.length t') s') : wpAny (model X.prog X.w) B (PySem.call (.builtin "len") [.ref a]) Q E s := by
  rcases g with ⟨rfl, ks, e, r⟩ | ⟨rfl, es, e, r⟩
  · refine d_len I (.inl e) fun t' s' I' => ?_
    rw [hl2 r]
    exact h t' s' I'
  · obtain ⟨z, hsm, xs, rel, dd, _⟩ := dic_rd I e r
    have hm : s.heap.DictKeyed (nestedKind X.prog X.w) a (pairsH xs) := ⟨xs, dd, rfl⟩
    have h1 : (pairsH xs).length = kvs.length := by rw [pairsH_length, ← Paired.length rel, hl r]
    refine PyProof.Rows.call_len_slot (n := (pairsH xs).length) hm.typeIs F.slot_dict_len (fun Q' hq => len_keyed hsm hm hq) (by omega) ?_ ?_
    · have hz := sizeLine_eq
      have := Paired.length rel
      rw [pairsH_length]
      omega
    · rw [h1]
      exact h _ _ ((I.tok _).tok _)
/-- d[k], there -/
theorem dic_get {B : Around} {E : Value → Shared → Prop} {t : Bool} {kvs : List (D × D)} {k d : D} {y : V} {u : Value} {Q : Value → Shared → Prop} (hu : B.units + 16 < cLine) (I : Inv X pins σ H s) (g : DicAt X.K A H a t kvs) (hk : keyOk t k = true) (rk : Rep X.K A H k y) (ry : RelV y u)
    (hf : find k kvs = some d) (h : ∀ v w' s', Inv X pins σ H s' → RelV v w' → Rep X.K A H d v → Q w' s') : wpAny (model X.prog X.w) B (getItem (.ref a) u) Q E s := by
  rcases g with ⟨rfl, ks, e, r⟩ | ⟨rfl, es, e, r⟩
  · obtain ⟨c, hc⟩ := keyK hk
    have q := find_K hc r
    rw [hf] at q
    obtain ⟨v, hv, rv⟩ := q
    have hy := kv_rep hc rk
    subst hy
    refine d_getItem (by omega) I (hv ▸ DGet.k e) ry fun w' s' I' r' => h v w' s' I' r' rv
  · obtain ⟨c, hc, hd⟩ := keyT hk
    obtain ⟨z, hsm, xs, rel, dd, _⟩ := dic_rd I e r
    have q := find_T hc r rel
    rw [hf] at q
    obtain ⟨b, u', v, hat, rv, rd⟩ := q
    have hk' := hk
    cases k with
    | tup xs' =>
      simp only [Rep] at rk
      obtain ⟨b', vs, rfl, q1, q2⟩ := rk
      cases (show u = Value.ref b' from ry)
      refine wpAny_getItem_heap (by show B.units + 1 + 8 < cLine; omega) (is_of (A := A) I hk' hc (by simp only [Rep]; exact ⟨b', vs, rfl, q1, q2⟩)) dd hat ?_
      exact h v u' _ (I.tok _) rv rd
    | _ => simp [keyOk] at hk
theorem dic_in {B : Around} {E : Value → Shared → Prop} {t : Bool} {kvs : List (D × D)} {k : D} {y : V} {u : Value} {Q : Value → Shared → Prop} (hu : B.units + 16 < cLine) (I : Inv X pins σ H s) (g : DicAt X.K A H a t kvs) (hk : keyOk t k = true) (rk : Rep X.K A H k y) (ry : RelV y u)
    (h : ∀ s', Inv X pins σ H s' → Q (.bool (find k kvs).isSome) s') : wpAny (model X.prog X.w) B (compareOp .In u (.ref a)) Q E s := by
  rcases g with ⟨rfl, ks, e, r⟩ | ⟨rfl, es, e, r⟩
  · obtain ⟨c, hc⟩ := keyK hk
    have q := find_K hc r
    have hy := kv_rep hc rk
    subst hy
    refine d_in (by omega) I (DGet.k e) ry fun s' I' => ?_
    have z : (valV ks c).isSome = (find k kvs).isSome := by
      cases hf : find k kvs with
      | none => rw [hf] at q; rw [show valV ks c = none from q]; rfl
      | some d => rw [hf] at q; obtain ⟨v, hv, _⟩ := q; rw [hv]; rfl
    rw [z]
    exact h s' I'
  · obtain ⟨c, hc, hd⟩ := keyT hk
    obtain ⟨z, hsm, xs, rel, dd, _⟩ := dic_rd I e r
    have q := find_T hc r rel
    have hk' := hk
    cases k with
    | tup xs' =>
      simp only [Rep] at rk
      obtain ⟨b', vs, rfl, q1, q2⟩ := rk
      cases (show u = Value.ref b' from ry)
      refine wpAny_in_heap (by show B.units + 1 + 8 < cLine; omega) (is_of (A := A) I hk' hc (by simp only [Rep]; exact ⟨b', vs, rfl, q1, q2⟩)) hsm dd ?_
      have z : (atKey xs c).isSome = (find (.tup xs') kvs).isSome := by
        cases hf : find (.tup xs') kvs with
        | none => rw [hf] at q; rw [show atKey xs c = none from q]; rfl
        | some d => rw [hf] at q; obtain ⟨b, u', v, hv, _⟩ := q; rw [hv]; rfl
      rw [z]
      exact h _ (I.tok _)
    | _ => simp [keyOk] at hk
theorem dic_notIn {B : Around} {E : Value → Shared → Prop} {t : Bool} {kvs : List (D × D)} {k : D} {y : V} {u : Value} {Q : Value → Shared → Prop} (hu : B.units + 16 < cLine) (I : Inv X pins σ H s) (g : DicAt X.K A H a t kvs) (hk : keyOk t k = true) (rk : Rep X.K A H k y) (ry : RelV y u)
    (h : ∀ s', Inv X pins σ H s' → Q (.bool (!(find k kvs).isSome)) s') : wpAny (model X.prog X.w) B (compareOp .NotIn u (.ref a)) Q E s := by
  rcases g with ⟨rfl, ks, e, r⟩ | ⟨rfl, es, e, r⟩
  · obtain ⟨c, hc⟩ := keyK hk
    have q := find_K hc r
    have hy := kv_rep hc rk
    subst hy
    refine d_notIn (by omega) I (DGet.k e) ry fun s' I' => ?_
    have z : (valV ks c).isSome = (find k kvs).isSome := by
      cases hf : find k kvs with
      | none => rw [hf] at q; rw [show valV ks c = none from q]; rfl
      | some d => rw [hf] at q; obtain ⟨v, hv, _⟩ := q; rw [hv]; rfl
    rw [z]
    exact h s' I'
  · obtain ⟨c, hc, hd⟩ := keyT hk
    obtain ⟨z, hsm, xs, rel, dd, _⟩ := dic_rd I e r
    have q := find_T hc r rel
    have hk' := hk
    cases k with
    | tup xs' =>
      simp only [Rep] at rk
      obtain ⟨b', vs, rfl, q1, q2⟩ := rk
      cases (show u = Value.ref b' from ry)
      refine PyProof.Rows.wpAny_notIn_heap (by show B.units + 1 + 8 < cLine; omega) (is_of (A := A) I hk' hc (by simp only [Rep]; exact ⟨b', vs, rfl, q1, q2⟩)) hsm dd ?_
      have z : (atKey xs c).isSome = (find (.tup xs') kvs).isSome := by
        cases hf : find (.tup xs') kvs with
        | none => rw [hf] at q; rw [show atKey xs c = none from q]; rfl
        | some d => rw [hf] at q; obtain ⟨b, u', v, hv, _⟩ := q; rw [hv]; rfl
      rw [z]
      exact h _ (I.tok _)
    | _ => simp [keyOk] at hk
/-! ### stores -/
def putE (es : List (NestedKey × Addr × V)) (c : NestedKey) (b : Addr) (v : V) : List (NestedKey × Addr × V) :=
  if es.any (fun x => decide (x.1 = c)) then es.map (fun x => if x.1 = c then (x.1, x.2.1, v) else x) else es ++ [(c, b, v)]
theorem map_no {α β : Type} [DecidableEq α] (c : α) (f : α × β → α × β) : ∀ (es : List (α × β)), ¬ c ∈ es.map (·.1) → es.map (fun x => if x.1 = c then f x else x) = es
  | [], _ => rfl
  | x :: es, h => by
    simp only [List.map_cons, List.mem_cons, not_or] at h
    simp only [List.map_cons]
    rw [if_neg fun z => h.1 z.symm, map_no c f es h.2]
theorem put_T {K : Frag} {k d : D} {c : NestedKey} {b : Addr} {v : V} (hc : nk k = some c) (hk : keyOk true k = true) (rk : Rep K A H k (.ref b)) (rd : Rep K A H d v) : ∀ {kvs : List (D × D)} {es : List (NestedKey × Addr × V)}, RepT K A H kvs es → (es.map (·.1)).Nodup →
    RepT K A H (putD k d kvs) (putE es c b v)
  | [], es, r, _ => by
    simp only [RepT] at r
    subst r
    show RepT K A H [(k, d)] [(c, b, v)]
    simp only [RepT]
    exact ⟨c, b, v, [], rfl, ⟨hc, hk⟩, rk, rd, rfl⟩
  | (k0, d0) :: kvs, es, r, nd => by
    simp only [RepT] at r
    obtain ⟨c0, b0, v0, q, rfl, ⟨h0, hk0⟩, h1, h2, h3⟩ := r
    simp only [List.map_cons, List.nodup_cons] at nd
    simp only [putD, nk_eq h0 hc]
    by_cases e : c0 = c
    · rw [decide_eq_true e, if_pos rfl]
      have e1 : putE ((c0, b0, v0) :: q) c b v = (c0, b0, v) :: q := by
        unfold putE
        rw [if_pos (by simp [e])]
        simp only [List.map_cons]
        rw [if_pos e, map_no c (fun x => (x.1, x.2.1, v)) q (by rw [← e]; exact nd.1)]
      rw [e1]
      simp only [RepT]
      exact ⟨c0, b0, v, q, rfl, ⟨h0, hk0⟩, h1, rd, h3⟩
    · rw [decide_eq_false e, if_neg (by decide)]
      have e1 : putE ((c0, b0, v0) :: q) c b v = (c0, b0, v0) :: putE q c b v := by
        unfold putE
        simp only [List.any_cons, decide_eq_false e, Bool.false_or]
        split
        · simp only [List.map_cons]
          rw [if_neg e]
        · rfl
      rw [e1]
      simp only [RepT]
      exact ⟨c0, b0, v0, _, rfl, ⟨h0, hk0⟩, h1, h2, put_T hc hk rk rd h3 nd.2⟩
theorem put_K {K : Frag} {k d : D} {c : Key} {v : V} (hc : kvK k = some c) (rd : Rep K A H d v) : ∀ {kvs : List (D × D)} {ks : List (Key × V)}, RepK K A H kvs ks → (ks.map (·.1)).Nodup → RepK K A H (putD k d kvs) (putK ks c v)
  | [], ks, r, _ => by
    simp only [RepK] at r
    subst r
    show RepK K A H [(k, d)] [(c, v)]
    simp only [RepK]
    exact ⟨c, v, [], rfl, hc, rd, rfl⟩
  | (k0, d0) :: kvs, ks, r, nd => by
    simp only [RepK] at r
    obtain ⟨c0, v0, q, rfl, h0, h2, h3⟩ := r
    simp only [List.map_cons, List.nodup_cons] at nd
    simp only [putD, kv_eq h0 hc]
    by_cases e : c0 = c
    · rw [decide_eq_true e, if_pos rfl]
      have e1 : putK ((c0, v0) :: q) c v = (c0, v) :: q := by
        unfold putK
        rw [if_pos (by simp [e])]
        simp only [List.map_cons]
        rw [if_pos e, map_no c (fun x => (x.1, v)) q (by rw [← e]; exact nd.1)]
      rw [e1]
      simp only [RepK]
      exact ⟨c0, v, q, rfl, h0, rd, h3⟩
    · rw [decide_eq_false e, if_neg (by decide)]
      have e1 : putK ((c0, v0) :: q) c v = (c0, v0) :: putK q c v := by
        unfold putK
        simp only [List.any_cons, decide_eq_false e, Bool.false_or]
        split
        · simp only [List.map_cons]
          rw [if_neg e]
        · rfl
      rw [e1]
      simp only [RepK]
      exact ⟨c0, v0, _, rfl, h0, h2, put_K hc rd h3 nd.2⟩
theorem pt_keys : ∀ {es : List (NestedKey × Addr × V)} {xs : List (NestedKey × Addr × Value)}, PT3 es xs → es.map (·.1) = xs.map (·.1)
  | _, _, .nil => rfl
  | _, _, .cons h t => by
    simp only [List.map_cons]
    rw [h.1, pt_keys t]
theorem pt_any {es : List (NestedKey × Addr × V)} {xs : List (NestedKey × Addr × Value)} (p : PT3 es xs) (c : NestedKey) : (es.any fun x => decide (x.1 = c)) = (atKey xs c).isSome := by
  induction p with
  | nil => rfl
  | @cons x y es xs h t ih =>
    simp only [List.any_cons]
    have h1 : x.1 = y.1 := h.1
    by_cases e : y.1 = c
    · have e2 : atKey (y :: xs) c = some y.2 := by
        unfold atKey
        rw [List.find?_cons_of_pos (by simpa using e)]
        rfl
      rw [e2, h1, decide_eq_true e]
      rfl
    · have e2 : atKey (y :: xs) c = atKey xs c := by
        unfold atKey
        rw [List.find?_cons_of_neg (by simpa using e)]
      rw [e2, h1, decide_eq_false e, Bool.false_or, ih]
theorem pt_put {es : List (NestedKey × Addr × V)} {xs : List (NestedKey × Addr × Value)} (p : PT3 es xs) (c : NestedKey) (b : Addr) {v : V} {u : Value} (r : RelV v u) : PT3 (putE es c b v) (storedH xs c b u) := by
  unfold putE storedH
  rw [pt_any p]
  split
  · rename_i h
    clear h
    induction p with
    | nil => exact .nil
    | @cons x y es xs h t ih =>
      simp only [List.map_cons]
      refine .cons ?_ ih
      unfold putAt
      have h1 : x.1 = y.1 := h.1
      by_cases e : y.1 = c
      · rw [if_pos (h1.trans e), if_pos e]
        exact ⟨h1, h.2.1, r⟩
      · rw [if_neg fun z => e (h1.symm.trans z), if_neg e]
        exact h
  · exact Paired.snoc p ⟨rfl, rfl, r⟩
theorem putE_len (es : List (NestedKey × Addr × V)) (c : NestedKey) (b : Addr) (v : V) : (putE es c b v).length ≤ es.length + 1 := by
  unfold putE
  split <;> simp
theorem RepT.len {K : Frag} : ∀ {kvs : List (D × D)} {es : List (NestedKey × Addr × V)}, RepT K A H kvs es → es.length = kvs.length
  | [], es, r => by
    simp only [RepT] at r
    subst r
    rfl
  | (k, d) :: kvs, es, r => by
    simp only [RepT] at r
    obtain ⟨c0, b0, v0, q, rfl, _, _, _, h3⟩ := r
    simp [RepT.len h3]
theorem RepK.len {K : Frag} : ∀ {kvs : List (D × D)} {es : List (Key × V)}, RepK K A H kvs es → es.length = kvs.length
  | [], es, r => by
    simp only [RepK] at r
    subst r
    rfl
  | (k, d) :: kvs, es, r => by
    simp only [RepK] at r
    obtain ⟨c0, v0, q, rfl, _, _, h3⟩ := r
    simp [RepK.len h3]
theorem RepT.hash {K : Frag} (w w' : World) : ∀ {kvs : List (D × D)} {es : List (NestedKey × Addr × V)}, RepT K A H kvs es → ∀ x ∈ es, x.1.hash w = x.1.hash w'
  | [], es, r, x, hx => by
    simp only [RepT] at r
    subst r
    cases hx
  | (k, d) :: kvs, es, r, x, hx => by
    simp only [RepT] at r
    obtain ⟨c0, b0, v0, q, rfl, ⟨h0, _⟩, _, _, h3⟩ := r
    rcases List.mem_cons.mp hx with z | hx
    · subst z
      exact nk_hash w w' k c0 h0
    · exact RepT.hash w w' h3 x hx
theorem ent_any {w w' : World} : ∀ {es : List (NestedKey × Addr × V)} {xs : List (NestedKey × Addr × Value)}, PT3 es xs → (∀ x ∈ es, x.1.hash w = x.1.hash w') → xs.map (entW w) = xs.map (entW w')
  | _, _, .nil, _ => rfl
  | _, _, @Paired.cons _ _ _ x y es xs h t, hh => by
    simp only [List.map_cons]
    rw [ent_any t fun z hz => hh z (List.mem_cons_of_mem _ hz)]
    have h1 : x.1 = y.1 := h.1
    have h2 := hh x List.mem_cons_self
    rw [h1] at h2
    unfold entW
    rw [h2]
/-- d[k] = v -/
def rSetN (K : Frag) : TSet := fun o i v H Q => ∃ A t kvs k d a, o = .ref a ∧ A a ∧ DicAt K A H a t kvs ∧ Rep K A H k i ∧ Rep K A H d v ∧ keyOk t k = true ∧ kvs.length < SZ ∧ ∀ ob, DicAt K A (upd H a ob) a t (putD k d kvs) → Q (upd H a ob)
theorem set_dic (hu : X.A.units + 16 < cLine) : PSet X (rSetN X.K) := by
  intro pins s σ H o i v ov iv u Q I ro ri rv ⟨A, t, kvs, k, d, a, eo, hA, g, rk, rd, hk, hl, q⟩
  subst eo
  cases (show ov = Value.ref a from ro)
  rcases g with ⟨rfl, ks, e, r⟩ | ⟨rfl, es, e, r⟩
  · obtain ⟨c, hc⟩ := keyK hk
    have hy := kv_rep hc rk
    subst hy
    have hlen := r.len
    have nd : (ks.map (·.1)).Nodup := by
      obtain ⟨_, _, vs, rel, _, _, _, _, _, _, _, _, nd⟩ := dk_of I.hok e
      rw [rel.keys]
      exact nd
    refine d_setItem (by omega) I (DPut.k e (by rw [hlen]; exact hl)) ri rv fun s' I' => ⟨_, I', q _ ?_⟩
    have mv : Mv A H A (upd H a (.dK (putK ks c v))) := ⟨fun b hb => .inl hb, fun b ob e3 hb => by
      rw [upd_ne]
      · exact e3
      · intro z
        subst z
        rcases hb with hb | hb
        · exact hb hA
        · rw [e] at e3
          cases e3
          exact hb⟩
    exact .inl ⟨rfl, _, upd_same, RepK.move mv _ _ (put_K hc rd r nd)⟩
  · obtain ⟨c, hc, hd⟩ := keyT hk
    obtain ⟨z, hsm, xs, rel, dd, o0, en, ep, g1, g2, g3, g4, g5⟩ := dic_rd I e r
    have hk' := hk
    have nd : (es.map (·.1)).Nodup := by
      rw [pt_keys rel]
      exact g5
    cases k with
    | tup xs' =>
      have rk0 := rk
      simp only [Rep] at rk
      obtain ⟨b', vs, rfl, q1, q2⟩ := rk
      cases (show iv = Value.ref b' from ri)
      have hlen := r.len
      have hsz : SZ = sizeLine := rfl
      have hz : xs.length ≤ sizeLine := by rw [← Paired.length rel]; exact z
      have rp := put_T hc hk rk0 rd r nd
      have pp := pt_put rel c b' rv
      refine wpAny_setItem_heap (hsz := hz) (by show X.A.units + 1 + 8 < cLine; omega) (is_of (A := A) I hk hc rk0) dd fun h' dd' hs => ?_
      obtain ⟨q0, en', ep', hq, h2, h3, h4, _, h5⟩ := dd'
      have mv : Mv A H A (upd H a (dicT a (putE es c b' v))) := ⟨fun b hb => .inl hb, fun b ob e3 hb => by
        rw [upd_ne]
        · exact e3
        · intro z
          subst z
          rcases hb with hb | hb
          · exact hb hA
          · rw [e] at e3
            cases e3
            exact hb⟩
      refine ⟨upd H a (dicT a (putE es c b' v)), ?_, q _ (.inr ⟨rfl, _, upd_same, RepT.move mv _ _ rp⟩)⟩
      refine d_write I (by rw [e]; exact True.intro) hs ⟨q0, hq⟩ ⟨⟨hsm, ?_, _, pp, q0, en', ep', hq, h2, h3, fun w => ?_, h5⟩, ⟨q0, hq⟩, ?_⟩
      · have := putE_len es c b' v
        omega
      · have h4' : en'.toList = (storedH xs c b' u).map (entW X.w) := h4
        rw [h4']
        exact ent_any pp (rp.hash X.w w)
      · rintro h1 h2 ⟨y1, y2, xs', y3, o', en2, ep2, z1, z2⟩ hk2
        exact ⟨y1, y2, xs', y3, o', en2, ep2, hk2 _ z1, z2⟩
    | _ => simp [keyOk] at hk
/-- of a list or a dict -/
def rSetX (K : Frag) : TSet := fun o i v H Q => rSetL o i v H Q ∨ rSetN K o i v H Q
theorem set_any (hu : X.A.units + 16 < cLine) : PSet X (rSetX X.K) := fun pins s σ H o i v ov iv u Q I ro ri rv h => by
  rcases h with h | h
  · exact set_list pins s σ H o i v ov iv u Q I ro ri rv h
  · exact set_dic hu pins s σ H o i v ov iv u Q I ro ri rv h
end
end Py
/-! Operators. -/
namespace Py
open PySem L2
/-! ### data of the library -/
mutual
def toPy : D → PyData
  | .non => .none
  | .bl b => .bool b
  | .int i => .int i
  | .str s => .str (Str.ofString s)
  | .tup xs => .tuple (toPyL xs)
  | .lst xs => .list (toPyL xs)
  | .dic _ _ => .none
  | .ins _ _ => .none
  | .drw _ => .none
def toPyL : List D → List PyData
  | [] => []
  | d :: r => toPy d :: toPyL r
end
theorem str_len (s : String) : (Str.ofString s).length = s.length := by
  rw [Str.ofString_eq_toList]
  simp [Str.length, String.length_toList]
theorem str_ok (s : String) : PySem.PyData.strOk (Str.ofString s) = true := by
  rw [Str.ofString_eq_toList]
  simp only [PySem.PyData.strOk, List.size_toArray, List.all_toArray', List.all_map]
  refine List.all_eq_true.mpr fun c _ => ?_
  simp only [Function.comp, decide_eq_true_eq]
  rcases c.valid with h | h
  · have h2 : c.toNat < 55296 := h
    omega
  · have h2 : c.toNat < 1114112 := h.2
    omega
mutual
theorem dp_of {K : Frag} {H : Hp} : ∀ (n : Nat) (d : D) (v : V), pl n d = true → Rep K (fun _ => False) H d v → Dp K H v (toPy d) ∧ (toPy d).canLay0 = true ∧ (toPy d).depth ≤ n
  | n, .non, v, _, h => by
    simp only [Rep] at h
    subst h
    exact ⟨.non, by simp [toPy, PyData.canLay0], by simp [toPy, PyData.depth]⟩
  | n, .bl b, v, _, h => by
    simp only [Rep] at h
    subst h
    exact ⟨.bl b, by simp [toPy, PyData.canLay0], by simp [toPy, PyData.depth]⟩
  | n, .int b, v, _, h => by
    simp only [Rep] at h
    subst h
    exact ⟨.int b, by simp [toPy, PyData.canLay0], by simp [toPy, PyData.depth]⟩
  | n, .str b, v, _, h => by
    simp only [Rep] at h
    subst h
    exact ⟨.str _, by simp [toPy, PyData.canLay0, str_ok], by simp [toPy, PyData.depth]⟩
  | n + 1, .tup xs, v, p, h => by
    simp only [Rep] at h
    obtain ⟨a, vs, rfl, q, r⟩ := h
    simp only [pl] at p
    obtain ⟨h1, h2, h3⟩ := dp_ofL n xs vs p r
    refine ⟨?_, by simpa [toPy, PyData.canLay0] using h2, by simp only [toPy, PyData.depth]; omega⟩
    simp only [toPy]
    exact .tup q h1
  | n + 1, .lst xs, v, p, h => by
    simp only [Rep] at h
    obtain ⟨a, vs, rfl, _, q, r⟩ := h
    simp only [pl] at p
    obtain ⟨h1, h2, h3⟩ := dp_ofL n xs vs p r
    refine ⟨?_, by simpa [toPy, PyData.canLay0] using h2, by simp only [toPy, PyData.depth]; omega⟩
    simp only [toPy]
    exact .lst (.inl q) h1
  | 0, .tup xs, v, p, h => by simp [pl] at p
  | 0, .lst xs, v, p, h => by simp [pl] at p
  | n, .dic _ _, v, p, h => by cases n <;> simp [pl] at p
  | n, .ins _ _, v, p, h => by cases n <;> simp [pl] at p
  | n, .drw _, v, p, h => by cases n <;> simp [pl] at p
theorem dp_ofL {K : Frag} {H : Hp} : ∀ (n : Nat) (ds : List D) (vs : List V), ds.all (pl n) = true → RepL K (fun _ => False) H ds vs → DpAll K H vs (toPyL ds) ∧ PyData.canLayAll0 (toPyL ds) = true ∧ PyData.depthAll (toPyL ds) ≤ n
  | n, [], vs, _, h => by
    simp only [RepL] at h
    subst h
    exact ⟨.nil, by simp [toPyL, PyData.canLayAll0], by simp [toPyL, PyData.depthAll]⟩
  | n, d :: ds, vs, p, h => by
    simp only [RepL] at h
    obtain ⟨v, r, rfl, h1, h2⟩ := h
    simp only [List.all_cons, Bool.and_eq_true] at p
    obtain ⟨a1, a2, a3⟩ := dp_of n d v p.1 h1
    obtain ⟨b1, b2, b3⟩ := dp_ofL n ds r p.2 h2
    refine ⟨.cons a1 b1, by simp [toPyL, PyData.canLayAll0, a2, b2], by simp only [toPyL, PyData.depthAll]; omega⟩
end
mutual
theorem eqv_py : ∀ (d e : D) (n m : Nat), pl n d = true → pl m e = true → PyData.eqv (toPy d) (toPy e) = eqv d e
  | .non, e, n, m, _, q => by cases e <;> first | (cases m <;> simp [pl] at q; done) | simp [toPy, PyData.eqv, eqv]
  | .bl b, e, n, m, _, _ => by cases e <;> simp [toPy, PyData.eqv, eqv, b2i]
  | .int b, e, n, m, _, _ => by cases e <;> simp [toPy, PyData.eqv, eqv, b2i]
  | .str b, e, n, m, _, _ => by
    cases e with
    | str c =>
      simp only [toPy, PyData.eqv, eqv]
      by_cases q : b = c
      · subst q
        simp
      · rw [beq_eq_false_iff_ne.mpr q]
        exact beq_eq_false_iff_ne.mpr fun z => q (ofS_inj z)
    | _ => simp [toPy, PyData.eqv, eqv]
  | .tup xs, e, n, m, p, q => by
    cases e with
    | tup ys =>
      cases n with
      | zero => simp [pl] at p
      | succ n =>
        cases m with
        | zero => simp [pl] at q
        | succ m =>
          simp only [toPy, PyData.eqv, eqv]
          exact eqv_pyL xs ys n m (by simpa only [pl] using p) (by simpa only [pl] using q)
    | _ => simp [toPy, PyData.eqv, eqv]
  | .lst xs, e, n, m, p, q => by
    cases e with
    | lst ys =>
      cases n with
      | zero => simp [pl] at p
      | succ n =>
        cases m with
        | zero => simp [pl] at q
        | succ m =>
          simp only [toPy, PyData.eqv, eqv]
          exact eqv_pyL xs ys n m (by simpa only [pl] using p) (by simpa only [pl] using q)
    | _ => simp [toPy, PyData.eqv, eqv]
  | .dic _ _, e, n, m, p, _ => by cases n <;> simp [pl] at p
  | .ins _ _, e, n, m, p, _ => by cases n <;> simp [pl] at p
  | .drw _, e, n, m, p, _ => by cases n <;> simp [pl] at p
theorem eqv_pyL : ∀ (ds es : List D) (n m : Nat), ds.all (pl n) = true → es.all (pl m) = true → PyData.eqvAll (toPyL ds) (toPyL es) = eqv.eqvL ds es
  | [], [], _, _, _, _ => by simp [toPyL, PyData.eqvAll, eqv.eqvL]
  | [], _ :: _, _, _, _, _ => by simp [toPyL, PyData.eqvAll, eqv.eqvL]
  | _ :: _, [], _, _, _, _ => by simp [toPyL, PyData.eqvAll, eqv.eqvL]
  | d :: ds, e :: es, n, m, p, q => by
    simp only [List.all_cons, Bool.and_eq_true] at p q
    simp only [toPyL, PyData.eqvAll, eqv.eqvL]
    rw [eqv_py d e n m p.1 q.1, eqv_pyL ds es n m p.2 q.2]
end
/-! ### two operands, one operand -/
def r2 (K : Frag) (f : D → D → Res D) : R2 := fun x y H Q => ∃ A d1 d2 d, RepW K A H d1 x ∧ RepW K A H d2 y ∧ (∀ a, A a → H a ≠ none) ∧ f d1 d2 = .ok d ∧ ∀ v H', Same H H' → Rep K A H' d v → Q v H'
def r1 (K : Frag) (f : D → Res D) : V → Hp → VK → Prop := fun x H Q => ∃ A d1 d, RepW K A H d1 x ∧ (∀ a, A a → H a ≠ none) ∧ f d1 = .ok d ∧ ∀ v H', Same H H' → Rep K A H' d v → Q v H'
/-- no error, nothing drawn -/
def Res.isP {α : Type} : Res α → Bool
  | .ok _ => true | .stuck => true | _ => false
def NoEx2 (f : D → D → Res D) : Prop := ∀ x y (_ _ : Unit), (f x y).isP = true
def NoEx1 (f : D → Res D) : Prop := ∀ x (_ _ : Unit), (f x).isP = true
theorem NoEx2.exc {f : D → D → Res D} (h : NoEx2 f) {x y : D} {c : String} {fs : List (String × D)} (e : f x y = .exc c fs) : False := by
  have := h x y () ()
  rw [e] at this
  cases this
theorem NoEx2.pick {f : D → D → Res D} (h : NoEx2 f) {x y : D} {n : Nat} {k : Nat → Res D} (e : f x y = .pick n k) : False := by
  have := h x y () ()
  rw [e] at this
  cases this
theorem NoEx1.exc {f : D → Res D} (h : NoEx1 f) {x : D} {c : String} {fs : List (String × D)} (e : f x = .exc c fs) : False := by
  have := h x () ()
  rw [e] at this
  cases this
theorem NoEx1.pick {f : D → Res D} (h : NoEx1 f) {x : D} {n : Nat} {k : Nat → Res D} (e : f x = .pick n k) : False := by
  have := h x () ()
  rw [e] at this
  cases this
theorem leaf_bind {α β : Type} {r : Res α} {f : α → Res β} {b : β} (h : Res.leaf b (r >>= f)) : ∃ a, Res.leaf a r ∧ Res.leaf b (f a) := by
  induction r with
  | ok a => exact ⟨a, rfl, h⟩
  | exc c fs => exact h.elim
  | stuck => exact h.elim
  | pick n k ih =>
    rw [bind_pick] at h
    obtain ⟨i, hi, q⟩ := h
    obtain ⟨a, h1, h2⟩ := ih i q
    exact ⟨a, ⟨i, hi, h1⟩, h2⟩
theorem leaf_isP {α : Type} {r : Res α} {d : α} (h : r.isP = true) (l : Res.leaf d r) : r = .ok d := by
  cases r with
  | ok a => exact congrArg Res.ok l
  | exc c fs => exact l.elim
  | stuck => exact l.elim
  | pick n k => cases h
theorem r2_of {K : Frag} {A : AS} {W : WX} {O : OW} {σ : L2.St} {H0 : Base} {f : D → D → Res D} (hf : NoEx2 f) {x y : V} {H : Hp} {Q : VK} {d1 d2 : D} (h1 : RepW K A H d1 x) (h2 : RepW K A H d2 y) (ha : ∀ a, A a → H a ≠ none)
    {bad : String → List (String × D) → Prop} (h : Out (f d1 d2) (fun d => ∀ v H', Same H H' → Rep K A H' d v → Q v H') bad) : r2 K f x y H Q := by
  cases e : f d1 d2 with
  | ok d =>
    rw [e] at h
    exact ⟨A, d1, d2, d, h1, h2, ha, e, h⟩
  | exc c fs => exact (hf.exc e).elim
  | pick _ _ => exact (hf.pick e).elim
  | stuck =>
    rw [e] at h
    exact h.elim
theorem RepW.move {K : Frag} {A : AS} {H H' : Hp} (s : Same H H') {d : D} {v : V} (h : RepW K A H d v) : RepW K A H' d v := by
  cases d with
  | lst xs =>
    obtain ⟨a, vs, e, q, r⟩ := h
    refine ⟨a, vs, e, ?_, RepL.move (Mv.same s) _ _ r⟩
    rcases q with q | ⟨o, q⟩
    · exact .inl (s _ _ q)
    · exact .inr ⟨o, s _ _ q⟩
  | ins c fs =>
    obtain ⟨a, dx, fvs, e, q, r⟩ := h
    exact ⟨a, dx, fvs, e, s _ _ q, RepF.move (Mv.same s) _ _ r⟩
  | dic t kvs =>
    obtain ⟨a, e, q⟩ := h
    refine ⟨a, e, ?_⟩
    rcases q with ⟨ht, ks, q, r⟩ | ⟨ht, es, q, r⟩
    · exact .inl ⟨ht, ks, s _ _ q, RepK.move (Mv.same s) _ _ r⟩
    · exact .inr ⟨ht, es, s _ _ q, RepT.move (Mv.same s) _ _ r⟩
  | _ => exact Rep.move (Mv.same s) _ _ h
section
variable {X : Cx} {W : WX} {A : AS} {H0 : Base} {ow : Ow} {a b : Expr} {ma mb : EM} {pos : Pos}
theorem two_of {f : D → D → Res D} (hf : NoEx2 f) {σ : L2.St} {H : Hp} {Q : VK} (h : tE X.K W ow (bin f ma mb) σ H Q) : tOp (r2 X.K f) (tW X.K W ow ma) (tW X.K W ow mb) σ H Q := by
  obtain ⟨A, H0, O, en, R, q⟩ := h
  refine ⟨A, H0, O, en, R, (Out.bind q).good fun d1 q1 v1 H1 s1 r1 => ?_⟩
  refine ⟨A, H0, O, en, R.to s1, ((Out.bind q1).to s1).good fun d2 q2 v2 H2 s2 r2 => ?_⟩
  have R2 := (R.to s1).to s2
  exact r2_of (W := W) (O := O) (σ := σ) (H0 := H0) hf (r1.move s2) r2 R2.there (q2.good fun d k v H' s' r => k v H' ((s1.trans s2).trans s') r)
theorem one_of {f : D → Res D} (hf : NoEx1 f) {σ : L2.St} {H : Hp} {Q : VK} (h : tE X.K W ow (un f ma) σ H Q) : tUn (r1 X.K f) (tW X.K W ow ma) σ H Q := by
  obtain ⟨A, H0, O, en, R, q⟩ := h
  refine ⟨A, H0, O, en, R, (Out.bind q).good fun d1 q1 v1 H1 s1 r1 => ?_⟩
  have R2 := R.to s1
  cases e : f d1 with
  | ok d =>
    rw [e] at q1
    exact ⟨_, d1, d, r1, R2.there, e, fun v H' s' r => q1 v H' (s1.trans s') r⟩
  | exc c fs => exact (hf.exc e).elim
  | pick _ _ => exact (hf.pick e).elim
  | stuck =>
    rw [e] at q1
    exact q1.elim
theorem x_bin {op : Operator} {f : D → D → Res D} (ho : OpR X (binaryOp op) (r2 X.K f)) (hf : NoEx2 f) (ha : PE X a (tW X.K W ow ma)) (hb : PE X b (tW X.K W ow mb)) : PE X (.BinOp a op b pos) (tE X.K W ow (bin f ma mb)) :=
  PE.of (pe_op ho ha hb) fun _ _ _ h => two_of hf h
theorem x_un {op : UnaryOp} {f : D → Res D} (ho : UnR X (unaryOp op) (r1 X.K f)) (hf : NoEx1 f) (ha : PE X a (tW X.K W ow ma)) : PE X (.UnaryOp op a pos) (tE X.K W ow (un f ma)) :=
  PE.of (pe_un ho ha) fun _ _ _ h => one_of hf h
theorem x_cmp {op : CmpOp} {f : D → D → Res D} (ho : OpR X (compareOp op) (r2 X.K f)) (hf : NoEx2 f) (ha : PE X a (tW X.K W ow ma)) (hb : PE X b (tW X.K W ow mb)) (hm : behindInMarks op b = false) : PE X (.Compare a [op] [b] pos) (tE X.K W ow (bin f ma mb)) :=
  PE.of (pe_cmpR ho ha hb hm) fun _ _ _ h => two_of hf h
/-! ### ints -/
theorem rep_int {K : Frag} {A : AS} {H : Hp} {i : Int} {v : V} (h : RepW K A H (.int i) v) : v = .int i := h
theorem imp2 {g : Value → Value → Sem Value} {r r' : R2} (h : OpR X g r) (k : ∀ x y H Q, r' x y H Q → r x y H Q) : OpR X g r' := fun pins s σ H x y v u Q I rx ry q => h pins s σ H x y v u Q I rx ry (k x y H Q q)
theorem imp1 {g : Value → Sem Value} {r r' : V → Hp → VK → Prop} (h : UnR X g r) (k : ∀ x H Q, r' x H Q → r x H Q) : UnR X g r' := fun pins s σ H x v Q I rx q => h pins s σ H x v Q I rx (k x H Q q)
theorem int_op {g : Value → Value → Sem Value} {f : D → D → Res D} {C : Int → Int → Prop} {z : Int → Int → V} {zd : Int → Int → D} (h : OpR X g (rI C z))
    (hz : ∀ i j, flat (zd i j) = some (z i j)) (hf : ∀ d1 d2 d, f d1 d2 = .ok d → ∃ i j, d1 = .int i ∧ d2 = .int j ∧ C i j ∧ d = zd i j) : OpR X g (r2 X.K f) := imp2 h fun x y H Q ⟨A, d1, d2, d, h1, h2, _, e, k⟩ => by
  obtain ⟨i, j, rfl, rfl, c, rfl⟩ := hf d1 d2 d e
  exact ⟨i, j, rep_int h1, rep_int h2, c, k _ H (Same.refl H) (flat_rep (hz i j) _ _)⟩
theorem rI_of {g : Value → Value → Sem Value} {z : Int → Int → V} (h : OpR X g (rI0 z)) : OpR X g (rI (fun _ _ => True) z) := imp2 h fun x y H Q ⟨i, j, e1, e2, _, q⟩ => ⟨i, j, e1, e2, q⟩
theorem y_sub : OpR X (binaryOp .Sub) (r2 X.K osub) := int_op (rI_of op_sub) (zd := fun i j => .int (i - j)) (fun _ _ => rfl) fun d1 d2 d e => by
  cases d1 <;> cases d2 <;> simp only [osub, Res.ok.injEq, reduceCtorEq] at e
  exact ⟨_, _, rfl, rfl, trivial, e.symm⟩
theorem y_mul : OpR X (binaryOp .Mult) (r2 X.K omul) := int_op op_mul (zd := fun i j => .int (i * j)) (fun _ _ => rfl) fun d1 d2 d e => by
  cases d1 <;> cases d2 <;> simp only [omul, reduceCtorEq] at e
  split at e
  · rename_i c
    refine ⟨_, _, rfl, rfl, ?_, ?_⟩
    · simp only [B64] at c
      unfold CMul
      have e64 : (2 : Int) ^ 64 = 18446744073709551616 := by decide
      rw [e64]
      omega
    · simp only [Res.ok.injEq] at e
      exact e.symm
  · cases e
theorem y_fdiv : OpR X (binaryOp .FloorDiv) (r2 X.K ofdiv) := int_op op_fdiv (zd := fun i j => .int (i / j)) (fun _ _ => rfl) fun d1 d2 d e => by
  cases d1 <;> cases d2 <;> simp only [ofdiv, reduceCtorEq] at e
  split at e
  · rename_i c
    simp only [Res.ok.injEq] at e
    exact ⟨_, _, rfl, rfl, c, e.symm⟩
  · cases e
theorem y_mod : OpR X (binaryOp .Mod) (r2 X.K omod) := int_op op_mod (zd := fun i j => .int (i % j)) (fun _ _ => rfl) fun d1 d2 d e => by
  cases d1 <;> cases d2 <;> simp only [omod, reduceCtorEq] at e
  split at e
  · rename_i c
    simp only [Res.ok.injEq] at e
    exact ⟨_, _, rfl, rfl, c, e.symm⟩
  · cases e
theorem y_pow : OpR X (binaryOp .Pow) (r2 X.K opow) := int_op op_pow (zd := fun i j => .int (i ^ j.toNat)) (fun _ _ => rfl) fun d1 d2 d e => by
  cases d1 <;> cases d2 <;> simp only [opow, reduceCtorEq] at e
  split at e
  · rename_i c
    simp only [Res.ok.injEq] at e
    refine ⟨_, _, rfl, rfl, ?_, e.symm⟩
    have e64 : (2 : Nat) ^ 64 = 18446744073709551616 := by decide
    unfold CPow
    rw [e64]
    exact c
  · cases e
theorem y_shl : OpR X (binaryOp .LShift) (r2 X.K oshl) := int_op op_shlW (zd := fun i j => .int (i * 2 ^ j.toNat)) (fun _ _ => rfl) fun d1 d2 d e => by
  cases d1 <;> cases d2 <;> simp only [oshl, reduceCtorEq] at e
  split at e
  · rename_i c
    simp only [Res.ok.injEq] at e
    refine ⟨_, _, rfl, rfl, ?_, e.symm⟩
    have e64 : (2 : Int) ^ 27 = 134217728 := by decide
    unfold CShl
    rw [e64]
    exact c
  · cases e
theorem y_shr : OpR X (binaryOp .RShift) (r2 X.K oshr) := int_op op_shr (zd := fun i j => .int (i / 2 ^ j.toNat)) (fun _ _ => rfl) fun d1 d2 d e => by
  cases d1 <;> cases d2 <;> simp only [oshr, reduceCtorEq] at e
  split at e
  · rename_i c
    simp only [Res.ok.injEq] at e
    exact ⟨_, _, rfl, rfl, c, e.symm⟩
  · cases e
theorem y_and : OpR X (binaryOp .BitAnd) (r2 X.K oand) := int_op (rI_of op_and) (zd := fun i j => .int (Builtin.bitAnd i j)) (fun _ _ => rfl) fun d1 d2 d e => by
  cases d1 <;> cases d2 <;> simp only [oand, Res.ok.injEq, reduceCtorEq] at e
  exact ⟨_, _, rfl, rfl, trivial, e.symm⟩
theorem y_or : OpR X (binaryOp .BitOr) (r2 X.K oor) := int_op (rI_of op_or) (zd := fun i j => .int (Builtin.bitOr i j)) (fun _ _ => rfl) fun d1 d2 d e => by
  cases d1 <;> cases d2 <;> simp only [oor, Res.ok.injEq, reduceCtorEq] at e
  exact ⟨_, _, rfl, rfl, trivial, e.symm⟩
theorem y_xor : OpR X (binaryOp .BitXor) (r2 X.K oxor) := int_op (rI_of op_xor) (zd := fun i j => .int (Builtin.bitXor i j)) (fun _ _ => rfl) fun d1 d2 d e => by
  cases d1 <;> cases d2 <;> simp only [oxor, Res.ok.injEq, reduceCtorEq] at e
  exact ⟨_, _, rfl, rfl, trivial, e.symm⟩
theorem y_lt : OpR X (compareOp .Lt) (r2 X.K olt) := int_op (rI_of op_lt) (zd := fun i j => .bl (decide (i < j))) (fun _ _ => rfl) fun d1 d2 d e => by
  cases d1 <;> cases d2 <;> simp only [olt, Res.ok.injEq, reduceCtorEq] at e
  exact ⟨_, _, rfl, rfl, trivial, e.symm⟩
theorem y_le : OpR X (compareOp .LtE) (r2 X.K ole) := int_op (rI_of op_le) (zd := fun i j => .bl (decide (i ≤ j))) (fun _ _ => rfl) fun d1 d2 d e => by
  cases d1 <;> cases d2 <;> simp only [ole, Res.ok.injEq, reduceCtorEq] at e
  exact ⟨_, _, rfl, rfl, trivial, e.symm⟩
theorem y_gt : OpR X (compareOp .Gt) (r2 X.K ogt) := int_op (rI_of op_gt) (zd := fun i j => .bl (decide (j < i))) (fun _ _ => rfl) fun d1 d2 d e => by
  cases d1 <;> cases d2 <;> simp only [ogt, Res.ok.injEq, reduceCtorEq] at e
  exact ⟨_, _, rfl, rfl, trivial, e.symm⟩
theorem y_ge : OpR X (compareOp .GtE) (r2 X.K oge) := int_op (rI_of op_ge) (zd := fun i j => .bl (decide (j ≤ i))) (fun _ _ => rfl) fun d1 d2 d e => by
  cases d1 <;> cases d2 <;> simp only [oge, Res.ok.injEq, reduceCtorEq] at e
  exact ⟨_, _, rfl, rfl, trivial, e.symm⟩
theorem y_neg : UnR X (unaryOp .USub) (r1 X.K oneg) := imp1 un_neg fun x H Q ⟨A, d1, d, h1, _, e, k⟩ => by
  cases d1 <;> simp only [oneg, Res.ok.injEq, reduceCtorEq] at e
  subst e
  exact ⟨_, rep_int h1, k _ H (Same.refl H) (flat_rep rfl _ _)⟩
theorem y_inv : UnR X (unaryOp .Invert) (r1 X.K oinv) := imp1 un_inv fun x H Q ⟨A, d1, d, h1, _, e, k⟩ => by
  cases d1 <;> simp only [oinv, Res.ok.injEq, reduceCtorEq] at e
  subst e
  exact ⟨_, rep_int h1, k _ H (Same.refl H) (flat_rep rfl _ _)⟩
/-! ### == and in -/
theorem y_eq (hu : X.A.units + 64 < cLine) : OpR X (compareOp .Eq) (r2 X.K oeq) := imp2 (op_eqD hu) fun x y H Q ⟨A, d1, d2, d, h1, h2, _, e, k⟩ => by
  unfold oeq at e
  split at e
  · rename_i c
    rw [Bool.and_eq_true] at c
    simp only [Res.ok.injEq] at e
    subst e
    obtain ⟨a1, a2, a3⟩ := dp_of 64 d1 x c.1 h1.none
    obtain ⟨b1, b2, b3⟩ := dp_of 64 d2 y c.2 h2.none
    refine ⟨_, _, a1, b1, ?_, ?_, ?_⟩
    · unfold SeqAt.shaped
      rw [a2, decide_eq_true a3]
      rfl
    · unfold SeqAt.shaped
      rw [b2, decide_eq_true b3]
      rfl
    · rw [eqv_py d1 d2 64 64 c.1 c.2]
      exact k _ H (Same.refl H) (flat_rep rfl _ _)
  · cases e
theorem y_ne (hu : X.A.units + 64 < cLine) : OpR X (compareOp .NotEq) (r2 X.K one) := imp2 (op_neD hu) fun x y H Q ⟨A, d1, d2, d, h1, h2, _, e, k⟩ => by
  unfold one at e
  split at e
  · rename_i c
    rw [Bool.and_eq_true] at c
    simp only [Res.ok.injEq] at e
    subst e
    obtain ⟨a1, a2, a3⟩ := dp_of 64 d1 x c.1 h1.none
    obtain ⟨b1, b2, b3⟩ := dp_of 64 d2 y c.2 h2.none
    refine ⟨_, _, a1, b1, ?_, ?_, ?_⟩
    · unfold SeqAt.shaped
      rw [a2, decide_eq_true a3]
      rfl
    · unfold SeqAt.shaped
      rw [b2, decide_eq_true b3]
      rfl
    · rw [eqv_py d1 d2 64 64 c.1 c.2]
      exact k _ H (Same.refl H) (flat_rep rfl _ _)
  · cases e
theorem flat_v {K : Frag} {A : AS} {H : Hp} {d : D} {v : V} (f : flatD d = true) (h : Rep K A H d v) : flatV v = true ∧ ∀ {e : D} {w : V}, flatD e = true → Rep K A H e w → eqV v w = eqv d e := by
  cases d <;> simp only [flatD, reduceCtorEq] at f <;> simp only [Rep] at h <;> subst h <;> refine ⟨rfl, ?_⟩ <;> intro e w fe he <;> cases e <;> simp only [flatD, reduceCtorEq] at fe <;> simp only [Rep] at he <;> subst he <;> simp only [eqV, eqv, b2i]
  rename_i b c
  by_cases q : b = c
  · subst q
    simp
  · rw [beq_eq_false_iff_ne.mpr q]
    exact beq_eq_false_iff_ne.mpr fun z => q (ofS_inj z)
theorem flat_all {K : Frag} {A : AS} {H : Hp} {x : D} {w : V} (fx : flatD x = true) (hx : Rep K A H x w) : ∀ {ds : List D} {vs : List V}, ds.all flatD = true → RepL K A H ds vs → vs.all flatV = true ∧ inV w vs = mem x ds
  | [], vs, _, h => by
    simp only [RepL] at h
    subst h
    exact ⟨rfl, rfl⟩
  | d :: ds, vs, f, h => by
    simp only [RepL] at h
    obtain ⟨v, r, rfl, h1, h2⟩ := h
    simp only [List.all_cons, Bool.and_eq_true] at f
    obtain ⟨a1, a2⟩ := flat_v f.1 h1
    obtain ⟨b1, b2⟩ := flat_all fx hx f.2 h2
    refine ⟨by simp only [List.all_cons, a1, b1, Bool.and_self], ?_⟩
    unfold inV at b2 ⊢
    simp only [List.any_cons, mem, a2 fx hx, b2]
theorem flatW {K : Frag} {A : AS} {H : Hp} {d : D} {v : V} (f : flatD d = true) (h : RepW K A H d v) : Rep K A H d v := by
  cases d <;> simp only [flatD, reduceCtorEq] at f <;> exact h
theorem in_of {K : Frag} {neg : Bool} {f : D → D → Res D} (hf : ∀ x y d, f x y = .ok d → ∃ ys, (y = .lst ys ∨ y = .tup ys) ∧ flatD x = true ∧ ys.all flatD = true ∧ d = .bl (if neg then !mem x ys else mem x ys)) :
    ∀ x y H Q, r2 K f x y H Q → rIn K neg x y H Q := fun x y H Q ⟨A, d1, d2, d, h1, h2, _, e, k⟩ => by
  obtain ⟨ys, hy, fx, fy, rfl⟩ := hf d1 d2 d e
  have g1 := flatW fx h1
  obtain ⟨a, vs, rfl, hq, r⟩ : ∃ a vs, y = .ref a ∧ (SqL K H a vs ∨ SqT K H a vs) ∧ RepL K A H ys vs := by
    rcases hy with rfl | rfl
    · obtain ⟨a, vs, e, q, r⟩ := h2
      exact ⟨a, vs, e, .inl (.inl q), r⟩
    · obtain ⟨a, vs, e, q, r⟩ := (by simpa only [RepW, Rep] using h2 : ∃ a vs, y = .ref a ∧ SqT K H a vs ∧ RepL K A H ys vs)
      exact ⟨a, vs, e, .inr q, r⟩
  obtain ⟨b1, b2⟩ := flat_all fx g1 fy r
  refine ⟨a, vs, rfl, hq, (flat_v fx g1).1, b1, ?_⟩
  rw [b2]
  exact k _ H (Same.refl H) (flat_rep rfl _ _)
def isDic : D → Bool
  | .dic _ _ => true
  | _ => false
theorem y_in (hu : X.A.units + 16 < cLine) : OpR X (compareOp .In) (r2 X.K oin) := by
  have base : OpR X (compareOp .In) (fun x y H Q => ∃ A d1 d2 d, isDic d2 = false ∧ RepW X.K A H d1 x ∧ RepW X.K A H d2 y ∧ (∀ a, A a → H a ≠ none) ∧ oin d1 d2 = .ok d ∧ ∀ v H', Same H H' → Rep X.K A H' d v → Q v H') :=
    imp2 op_in_seq fun x y H Q ⟨A, d1, d2, d, hd, h1, h2, h3, e, k⟩ => by
      have q : r2 X.K (fun a b => if isDic b then Res.stuck else oin a b) x y H Q := ⟨A, d1, d2, d, h1, h2, h3, by show (if isDic d2 = true then Res.stuck else oin d1 d2) = _; rw [hd]; exact e, k⟩
      refine in_of (f := fun a b => if isDic b then Res.stuck else oin a b) (neg := false) (fun x y d e => ?_) x y H Q q
      cases y with
      | tup xs =>
        have e : oin x (.tup xs) = .ok d := e
        simp only [oin] at e
        split at e
        · rename_i c
          rw [Bool.and_eq_true] at c
          simp only [Res.ok.injEq] at e
          exact ⟨xs, .inr rfl, c.1, c.2, e.symm⟩
        · cases e
      | lst xs =>
        have e : oin x (.lst xs) = .ok d := e
        simp only [oin] at e
        split at e
        · rename_i c
          rw [Bool.and_eq_true] at c
          simp only [Res.ok.injEq] at e
          exact ⟨xs, .inl rfl, c.1, c.2, e.symm⟩
        · cases e
      | _ => simp [oin, isDic] at e
  intro pins s σ H x y v u Q I rx ry ⟨A, d1, d2, d, h1, h2, h3, e, k⟩
  cases hd : isDic d2 with
  | false => exact base pins s σ H x y v u Q I rx ry ⟨A, d1, d2, d, hd, h1, h2, h3, e, k⟩
  | true =>
    cases d2 <;> simp only [isDic, reduceCtorEq] at hd
    rename_i t kvs
    simp only [oin] at e
    split at e
    · rename_i hk
      simp only [Res.ok.injEq] at e
      subst e
      obtain ⟨a, rfl, g⟩ := h2
      cases (show u = Value.ref a from ry)
      have h1' : Rep X.K A H d1 x := by
        cases d1 <;> first | exact h1 | (cases t <;> simp [keyOk] at hk)
      exact dic_in hu I g hk h1' rx fun s' I' => ⟨.bl (find d1 kvs).isSome, H, I', rfl, k _ H (Same.refl H) rfl⟩
    · cases e
theorem y_notin (hu : X.A.units + 16 < cLine) : OpR X (compareOp .NotIn) (r2 X.K onotin) := by
  have base : OpR X (compareOp .NotIn) (fun x y H Q => ∃ A d1 d2 d, isDic d2 = false ∧ RepW X.K A H d1 x ∧ RepW X.K A H d2 y ∧ (∀ a, A a → H a ≠ none) ∧ onotin d1 d2 = .ok d ∧ ∀ v H', Same H H' → Rep X.K A H' d v → Q v H') :=
    imp2 op_notIn_seq fun x y H Q ⟨A, d1, d2, d, hd, h1, h2, h3, e, k⟩ => by
      have q : r2 X.K (fun a b => if isDic b then Res.stuck else onotin a b) x y H Q := ⟨A, d1, d2, d, h1, h2, h3, by show (if isDic d2 = true then Res.stuck else onotin d1 d2) = _; rw [hd]; exact e, k⟩
      refine in_of (f := fun a b => if isDic b then Res.stuck else onotin a b) (neg := true) (fun x y d e => ?_) x y H Q q
      cases y with
      | tup xs =>
        have e : onotin x (.tup xs) = .ok d := e
        simp only [onotin] at e
        split at e
        · rename_i c
          rw [Bool.and_eq_true] at c
          simp only [Res.ok.injEq] at e
          exact ⟨xs, .inr rfl, c.1, c.2, e.symm⟩
        · cases e
      | lst xs =>
        have e : onotin x (.lst xs) = .ok d := e
        simp only [onotin] at e
        split at e
        · rename_i c
          rw [Bool.and_eq_true] at c
          simp only [Res.ok.injEq] at e
          exact ⟨xs, .inl rfl, c.1, c.2, e.symm⟩
        · cases e
      | _ => simp [onotin, isDic] at e
  intro pins s σ H x y v u Q I rx ry ⟨A, d1, d2, d, h1, h2, h3, e, k⟩
  cases hd : isDic d2 with
  | false => exact base pins s σ H x y v u Q I rx ry ⟨A, d1, d2, d, hd, h1, h2, h3, e, k⟩
  | true =>
    cases d2 <;> simp only [isDic, reduceCtorEq] at hd
    rename_i t kvs
    simp only [onotin] at e
    split at e
    · rename_i hk
      simp only [Res.ok.injEq] at e
      subst e
      obtain ⟨a, rfl, g⟩ := h2
      cases (show u = Value.ref a from ry)
      have h1' : Rep X.K A H d1 x := by
        cases d1 <;> first | exact h1 | (cases t <;> simp [keyOk] at hk)
      exact dic_notIn hu I g hk h1' rx fun s' I' => ⟨.bl (!(find d1 kvs).isSome), H, I', rfl, k _ H (Same.refl H) rfl⟩
    · cases e
/-! ### + -/
theorem RepL.empty {K : Frag} {A : AS} {H : Hp} {ds : List D} {vs : List V} (h : RepL K A H ds vs) : ds = [] ↔ vs = [] := by
  have := h.length
  constructor
  · intro e
    subst e
    exact List.eq_nil_of_length_eq_zero this.symm
  · intro e
    subst e
    exact List.eq_nil_of_length_eq_zero this
/-- a new object is clean -/
theorem new_same {H : Hp} {p : Addr} {o : HO} (h : H p = none) : Same H (upd H p o) := fun b u e => by
  rw [upd_ne (ne_of_none e h)]
  exact e
theorem new_tup {K : Frag} {A : AS} {H : Hp} {ds : List D} {vs : List V} (r : RepL K A H ds vs) {p : Addr} (h : H p = none) : Rep K A (upd H p (.tup vs)) (.tup ds) (.ref p) := by
  simp only [Rep]
  exact ⟨p, vs, rfl, .inl (.inl upd_same), RepL.move (Mv.same (new_same h)) _ _ r⟩
theorem new_lst {K : Frag} {A : AS} {H : Hp} (ha : ∀ a, A a → H a ≠ none) {ds : List D} {vs : List V} (r : RepL K A H ds vs) {p : Addr} (h : H p = none) : Rep K A (upd H p (.lst vs)) (.lst ds) (.ref p) := by
  simp only [Rep]
  exact ⟨p, vs, rfl, fun z => ha p z h, .inl upd_same, RepL.move (Mv.same (new_same h)) _ _ r⟩
theorem str_app (a b : String) : Str.ofString a ++ Str.ofString b = Str.ofString (a ++ b) := by
  simp only [Str.ofString_eq_toList]
  show Str.append _ _ = _
  simp [Str.append]
theorem lst_at {pins : List (Addr × Obj)} {σ : L2.St} {H : Hp} {s : Shared} (I : Inv X pins σ H s) {a : Addr} {vs : List V} (h : Rd H a (.lst vs)) :
    vs.length ≤ sizeLine ∧ ∃ (its : List Value) (n : Nat), Vals vs its ∧ s.heap.get? a = some { cls := .type "list", data := .seq its.toArray n } := h.ok I.hok
theorem y_add : OpR X (binaryOp .Add) (r2 X.K oadd) := by
  intro pins s σ H x y v u Q I rx ry ⟨A, d1, d2, d, h1, h2, ha, e, k⟩
  cases d1 with
  | int i =>
    cases d2 <;> simp only [oadd, Res.ok.injEq, reduceCtorEq] at e
    subst e
    exact op_add pins s σ H x y v u Q I rx ry ⟨_, _, rep_int h1, rep_int h2, k _ H (Same.refl H) (flat_rep rfl _ _)⟩
  | str i =>
    cases d2 <;> simp only [oadd, Res.ok.injEq, reduceCtorEq] at e
    split at e
    · rename_i j c
      simp only [Res.ok.injEq] at e
      subst e
      refine op_add_str pins s σ H x y v u Q I rx ry ⟨_, _, h1, h2, by rw [str_len, str_len]; exact c, ?_⟩
      rw [str_app]
      exact k _ H (Same.refl H) (flat_rep rfl _ _)
    · cases e
  | tup xs =>
    cases d2 <;> simp only [oadd, Res.ok.injEq, reduceCtorEq] at e
    rename_i ys
    split at e
    · rename_i c
      simp only [Res.ok.injEq] at e
      subst e
      obtain ⟨a, vs, rfl, q1, p1⟩ := (by simpa only [RepW, Rep] using h1 : ∃ a vs, x = .ref a ∧ SqT X.K H a vs ∧ RepL X.K A H xs vs)
      obtain ⟨b, ws, rfl, q2, p2⟩ := (by simpa only [RepW, Rep] using h2 : ∃ a vs, y = .ref a ∧ SqT X.K H a vs ∧ RepL X.K A H ys vs)
      refine op_catA pins s σ H _ _ v u Q I rx ry ⟨a, b, vs, ws, rfl, rfl, q1, q2, by rw [← p1.length, ← p2.length]; exact c, fun z => ?_, fun _ z => ?_, fun _ _ p hp => ?_⟩
      · have z1 := p1.empty.mpr z
        subst z1
        exact k _ H (Same.refl H) h2
      · have z1 := p2.empty.mpr z
        subst z1
        rw [List.append_nil] at k
        exact k _ H (Same.refl H) h1
      · exact k _ _ (new_same hp) (new_tup (p1.append p2) hp)
    · cases e
  | lst xs =>
    cases d2 <;> simp only [oadd, Res.ok.injEq, reduceCtorEq] at e
    rename_i ys
    split at e
    · rename_i c
      simp only [Res.ok.injEq] at e
      subst e
      obtain ⟨a, vs, rfl, q1, p1⟩ := h1
      obtain ⟨b, ws, rfl, q2, p2⟩ := h2
      cases rx
      cases ry
      obtain ⟨z1, its, n, rr1, e1⟩ := lst_at I q1
      obtain ⟨z2, its2, n2, rr2, e2⟩ := lst_at I q2
      have hl1 := rr1.length
      have hl2 := rr2.length
      have hl3 := p1.length
      have hl4 := p2.length
      have hsz : SZ = sizeLine := rfl
      refine PySem.P.add_list e1 e2 ?_ (by rw [List.size_toArray, List.size_toArray]; omega)
      have ea : its.toArray ++ its2.toArray = (its ++ its2).toArray := by simp
      rw [ea]
      exact ⟨.ref _, _, I.lnew (t' := s.toks) (rr1.append rr2) (by rw [List.length_append]; omega), rfl, k _ _ (new_same I.fresh) (new_lst ha (p1.append p2) I.fresh)⟩
    · cases e
  | _ => simp [oadd] at e
end
theorem n_add : NoEx2 oadd := fun x y c fs => by
  cases x <;> cases y <;> simp only [oadd] <;> first | (split <;> rfl) | rfl
theorem n_sub : NoEx2 osub := fun x y c fs => by cases x <;> cases y <;> rfl
theorem n_mul : NoEx2 omul := fun x y c fs => by
  cases x <;> cases y <;> simp only [omul] <;> first | (split <;> rfl) | rfl
theorem n_fdiv : NoEx2 ofdiv := fun x y c fs => by
  cases x <;> cases y <;> simp only [ofdiv] <;> first | (split <;> rfl) | rfl
theorem n_mod : NoEx2 omod := fun x y c fs => by
  cases x <;> cases y <;> simp only [omod] <;> first | (split <;> rfl) | rfl
theorem n_pow : NoEx2 opow := fun x y c fs => by
  cases x <;> cases y <;> simp only [opow] <;> first | (split <;> rfl) | rfl
theorem n_shl : NoEx2 oshl := fun x y c fs => by
  cases x <;> cases y <;> simp only [oshl] <;> first | (split <;> rfl) | rfl
theorem n_shr : NoEx2 oshr := fun x y c fs => by
  cases x <;> cases y <;> simp only [oshr] <;> first | (split <;> rfl) | rfl
theorem n_and : NoEx2 oand := fun x y c fs => by cases x <;> cases y <;> rfl
theorem n_or : NoEx2 oor := fun x y c fs => by cases x <;> cases y <;> rfl
theorem n_xor : NoEx2 oxor := fun x y c fs => by cases x <;> cases y <;> rfl
theorem n_lt : NoEx2 olt := fun x y c fs => by cases x <;> cases y <;> rfl
theorem n_le : NoEx2 ole := fun x y c fs => by cases x <;> cases y <;> rfl
theorem n_gt : NoEx2 ogt := fun x y c fs => by cases x <;> cases y <;> rfl
theorem n_ge : NoEx2 oge := fun x y c fs => by cases x <;> cases y <;> rfl
theorem n_neg : NoEx1 oneg := fun x c fs => by cases x <;> rfl
theorem n_inv : NoEx1 oinv := fun x c fs => by cases x <;> rfl
theorem n_eq : NoEx2 oeq := fun x y c fs => by
  unfold oeq
  split <;> rfl
theorem n_ne : NoEx2 one := fun x y c fs => by
  unfold one
  split <;> rfl
theorem n_in : NoEx2 oin := fun x y c fs => by
  cases y <;> simp only [oin] <;> first | (split <;> rfl) | rfl
theorem n_notin : NoEx2 onotin := fun x y c fs => by
  cases y <;> simp only [onotin] <;> first | (split <;> rfl) | rfl
end Py
/-! Tests, displays, subscripts, attributes, calls of built-ins. -/
namespace Py
open PySem L2
section
variable {X : Cx} {W : WX} {A : AS} {H0 : Base} {ow : Ow} {a b c : Expr} {ma mb mc : EM} {pos : Pos}
/-! ### truths -/
theorem bl_of {K : Frag} {A : AS} {H : Hp} {k : Bool} {v : V} (h : Rep K A H (.bl k) v) : v = .bl k := h
theorem rep_bl {K : Frag} {A : AS} {H : Hp} {k : Bool} : Rep K A H (.bl k) (.bl k) := rfl
theorem x_and {rest : List Expr} (ha : PE X a (tE X.K W ow ma)) (hb : PE X (.BoolOp .And (b :: rest) pos) (tE X.K W ow mb)) : PE X (.BoolOp .And (a :: b :: rest) pos) (tE X.K W ow (andE ma mb)) :=
  PE.of (pe_and ha hb) fun σ H Q ⟨A, H0, O, en, R, q⟩ => ⟨A, H0, O, en, R, (Out.bind q).good fun d q1 v H1 s1 r1 => by
    cases d with
    | bl k =>
      cases k with
      | true =>
        refine ⟨true, bl_of r1, ?_⟩
        rw [if_pos rfl]
        exact ⟨A, H0, O, en, R.to s1, (q1.to s1).good fun d2 q2 v2 H2 s2 r2 => q2 v2 H2 (s1.trans s2) r2⟩
      | false =>
        refine ⟨false, bl_of r1, ?_⟩
        rw [if_neg (by decide)]
        exact q1 _ _ s1 rep_bl
    | _ => exact q1.elim⟩
theorem x_one {op} (h : PE X a (tE X.K W ow ma)) : PE X (.BoolOp op [a] pos) (tE X.K W ow ma) := pe_one h
/-- not x, of a truth -/
theorem x_not (ha : PE X a (tE X.K W ow ma)) : PE X (.UnaryOp .Not a pos) (tE X.K W ow (un onb ma)) :=
  PE.of (pe_not ha) fun σ H Q ⟨A, H0, O, en, R, q⟩ => ⟨A, H0, O, en, R, (Out.bind q).good fun d q1 v H1 s1 r1 => by
    cases d with
    | bl k => exact ⟨k, bl_of r1, q1 _ _ s1 rep_bl⟩
    | _ => exact q1.elim⟩
theorem chain_of {f g : D → D → Res D} (hf : NoEx2 f) (hg : NoEx2 g) {σ : L2.St} {H : Hp} {Q : VK} (h : tE X.K W ow (chain f g ma mb mc) σ H Q) : tChain (r2 X.K f) (r2 X.K g) (tW X.K W ow ma) (tW X.K W ow mb) (tW X.K W ow mc) σ H Q := by
  obtain ⟨A, H0, O, en, R, q⟩ := h
  refine ⟨A, H0, O, en, R, (Out.bind q).good fun d1 q1 v1 H1 s1 r1 => ⟨A, H0, O, en, R.to s1, ((Out.bind q1).to s1).good fun d2 q2 v2 H2 s2 r2 => ?_⟩⟩
  have R2 := (R.to s1).to s2
  have q3 := Out.bind q2
  cases e : f d1 d2 with
  | exc cc fs => exact (hf.exc e).elim
  | pick _ _ => exact (hf.pick e).elim
  | stuck =>
    rw [e] at q3
    exact q3.elim
  | ok d =>
    rw [e] at q3
    refine ⟨_, d1, d2, d, r1.move s2, r2, R2.there, e, fun v3 H3 s3 r3 => ?_⟩
    have q4 : Out _ _ _ := q3
    cases d with
    | bl k =>
      cases k with
      | false =>
        refine ⟨false, bl_of r3, ?_⟩
        rw [if_neg (by decide)]
        exact q4 _ _ ((s1.trans s2).trans s3) rep_bl
      | true =>
        refine ⟨true, bl_of r3, ?_⟩
        rw [if_pos rfl]
        refine ⟨A, H0, O, en, R2.to s3, ((Out.bind q4).to ((s1.trans s2).trans s3)).good fun d4 q5 v4 H4 s4 r4 => ?_⟩
        exact r2_of (W := W) (O := O) (σ := σ) (H0 := H0) hg (r2.move (s3.trans s4)) r4 ((R2.to s3).to s4).there (q5.good fun d k v H' s' r => k v H' ((((s1.trans s2).trans s3).trans s4).trans s') r)
    | _ => exact q4.elim
theorem x_chain {op op' : CmpOp} {f g : D → D → Res D} (ho : OpR X (compareOp op) (r2 X.K f)) (ho' : OpR X (compareOp op') (r2 X.K g)) (hf : NoEx2 f) (hg : NoEx2 g)
    (ha : PE X a (tW X.K W ow ma)) (hb : PE X b (tW X.K W ow mb)) (hc : PE X c (tW X.K W ow mc))
    (hm : lastMarks [op, op'] [b, c] = false := by with_unfolding_all rfl) : PE X (.Compare a [op, op'] [b, c] pos) (tE X.K W ow (chain f g ma mb mc)) :=
  PE.of (pe_chain ho ho' ha hb hc hm) fun _ _ _ h => chain_of hf hg h
/-! ### tests -/
theorem trim {K : Frag} {A : AS} {H : Hp} {d : D} {v : V} {k : Bool} (h : RepW K A H d v) (e : truthy d = .ok k) : TruV K v H k := by
  cases d with
  | non =>
    simp only [truthy, Res.ok.injEq] at e
    have h' : v = .non := h
    subst h' e
    rfl
  | bl b =>
    simp only [truthy, Res.ok.injEq] at e
    have h' : v = .bl b := h
    subst h' e
    rfl
  | int i =>
    simp only [truthy, Res.ok.injEq] at e
    have h' : v = .int i := h
    subst h' e
    rfl
  | str s =>
    simp only [truthy] at e
    split at e
    · rename_i cc
      simp only [Res.ok.injEq] at e
      have h' : v = .str (Str.ofString s) := h
      subst h' e
      refine ⟨by rw [str_len]; exact cc, ?_⟩
      rw [str_len]
      cases hh : s.length with
      | zero => rfl
      | succ n =>
        have e1 : (((n + 1 : Nat) : Int) == 0) = false := beq_eq_false_iff_ne.mpr (by omega)
        have e2 : ((n + 1 : Nat) == 0) = false := rfl
        unfold bne
        rw [e1, e2]
    · cases e
  | tup xs =>
    simp only [truthy, Res.ok.injEq] at e
    obtain ⟨a, vs, rfl, q, r⟩ := (by simpa only [RepW, Rep] using h : ∃ a vs, v = .ref a ∧ SqT K H a vs ∧ RepL K A H xs vs)
    refine .inr (.inl ⟨vs, q, ?_⟩)
    subst e
    have hl := r.length
    cases xs <;> cases vs <;> first | rfl | simp at hl
  | lst xs =>
    simp only [truthy, Res.ok.injEq] at e
    obtain ⟨a, vs, rfl, q, r⟩ := h
    refine .inl ⟨vs, .inl q, ?_⟩
    subst e
    have hl := r.length
    cases xs <;> cases vs <;> first | rfl | simp at hl
  | dic _ => simp [truthy] at e
  | ins _ _ => simp [truthy] at e
  | drw _ => simp [truthy] at e
theorem no_truthy : ∀ d, (truthy d).isP = true := fun d => by
  cases d <;> simp only [truthy] <;> first | (split <;> rfl) | rfl
/-- any expression as a test -/
theorem t_tst (ha : PE X a (tW X.K W ow ma)) (he : ∀ whole, isTrue a X.env whole = (do let v ← whole; standAt a.pos; holding [v] (PySem.truthy v))) : PT X a (tT X.K W ow (tst ma)) :=
  PT.of (pt_truth ha he) fun σ H Q ⟨A, H0, O, en, R, q⟩ => ⟨A, H0, O, en, R, (Out.bind q).good fun d q1 v H1 s1 r1 => by
    cases e : Py.truthy d with
    | ok k =>
      rw [e] at q1
      exact ⟨k, trim r1 e, q1 H1 s1⟩
    | exc c fs =>
      have := no_truthy d
      rw [e] at this
      cases this
    | pick _ _ =>
      have := no_truthy d
      rw [e] at this
      cases this
    | stuck =>
      rw [e] at q1
      exact q1.elim⟩
/-- what gives a truth, as a test -/
def Bl (m : EM) : Prop := ∀ e d, Res.leaf d (m e) → ∃ k, d = .bl k
theorem Bl.bin {f : D → D → Res D} (hf : NoEx2 f) (h : ∀ x y d, f x y = .ok d → ∃ k, d = .bl k) {ma mb : EM} : Bl (bin f ma mb) := fun e d q => by
  obtain ⟨d1, _, q⟩ := leaf_bind q
  obtain ⟨d2, _, q⟩ := leaf_bind q
  exact h _ _ _ (leaf_isP (hf _ _ () ()) q)
theorem tst_of {m : EM} (hm : Bl m) {σ : L2.St} {H : Hp} {Q : Bool → Hp → Prop} (h : tT X.K W ow (tst m) σ H Q) : tE X.K W ow m σ H fun x H' => ∃ k, x = .bl k ∧ Q k H' := by
  obtain ⟨A, H0, O, en, R, q⟩ := h
  refine ⟨A, H0, O, en, R, (Out.bind q).imp (fun d e q1 v H1 s1 r1 => ?_) fun _ _ x => x⟩
  obtain ⟨k, rfl⟩ := hm _ _ e
  exact ⟨k, bl_of r1, q1 H1 s1⟩
/-- a comparison as a test -/
theorem t_cmp {op : CmpOp} {f : D → D → Res D} (ho : OpR X (compareOp op) (r2 X.K f)) (hf : NoEx2 f) (hb2 : ∀ x y d, f x y = .ok d → ∃ k, d = .bl k) (ha : PE X a (tW X.K W ow ma)) (hb : PE X b (tW X.K W ow mb)) (hm : behindInMarks op b = false) :
    PT X (.Compare a [op] [b] pos) (tT X.K W ow (tst (bin f ma mb))) :=
  PT.of (pt_cmpR ho ha hb hm) fun _ _ _ h => two_of hf (tst_of (Bl.bin hf hb2) h)
theorem b_lt : ∀ x y d, olt x y = .ok d → ∃ k, d = .bl k := fun x y d h => by
  cases x <;> cases y <;> simp only [olt, Res.ok.injEq, reduceCtorEq] at h
  exact ⟨_, h.symm⟩
theorem b_le : ∀ x y d, ole x y = .ok d → ∃ k, d = .bl k := fun x y d h => by
  cases x <;> cases y <;> simp only [ole, Res.ok.injEq, reduceCtorEq] at h
  exact ⟨_, h.symm⟩
theorem b_gt : ∀ x y d, ogt x y = .ok d → ∃ k, d = .bl k := fun x y d h => by
  cases x <;> cases y <;> simp only [ogt, Res.ok.injEq, reduceCtorEq] at h
  exact ⟨_, h.symm⟩
theorem b_eq : ∀ x y d, oeq x y = .ok d → ∃ k, d = .bl k := fun x y d h => by
  unfold oeq at h
  split at h <;> simp only [Res.ok.injEq, reduceCtorEq] at h
  exact ⟨_, h.symm⟩
theorem b_ne : ∀ x y d, Py.one x y = .ok d → ∃ k, d = .bl k := fun x y d h => by
  unfold Py.one at h
  split at h <;> simp only [Res.ok.injEq, reduceCtorEq] at h
  exact ⟨_, h.symm⟩
theorem b_in : ∀ x y d, oin x y = .ok d → ∃ k, d = .bl k := fun x y d h => by
  cases y <;> simp only [oin, reduceCtorEq] at h <;> split at h <;> simp only [Res.ok.injEq, reduceCtorEq] at h <;> exact ⟨_, h.symm⟩
theorem b_notin : ∀ x y d, onotin x y = .ok d → ∃ k, d = .bl k := fun x y d h => by
  cases y <;> simp only [onotin, reduceCtorEq] at h <;> split at h <;> simp only [Res.ok.injEq, reduceCtorEq] at h <;> exact ⟨_, h.symm⟩
theorem t_and1 {t : TM} (ha : PT X a (tT X.K W ow t)) : PW X (.BoolOp .And [a] pos) (tT X.K W ow t) := pw_and1 ha
theorem t_or1 {t : TM} (ha : PT X a (tT X.K W ow t)) : PW X (.BoolOp .Or [a] pos) (tT X.K W ow t) := pw_or1 ha
theorem t_and {t u : TM} {rest : List Expr} (ha : PT X a (tT X.K W ow t)) (hb : PW X (.BoolOp .And (b :: rest) pos) (tT X.K W ow u)) : PW X (.BoolOp .And (a :: b :: rest) pos) (tT X.K W ow (andT t u)) :=
  PW.of (pw_and ha hb) fun σ H Q ⟨A, H0, O, en, R, q⟩ => ⟨A, H0, O, en, R, (Out.bind q).good fun k q1 H1 s1 => by
    cases k with
    | true =>
      rw [if_pos rfl] at q1 ⊢
      exact ⟨A, H0, O, en, R.to s1, (q1.to s1).good fun d2 q2 H2 s2 => q2 H2 (s1.trans s2)⟩
    | false =>
      rw [if_neg (by decide)] at q1 ⊢
      exact q1 H1 s1⟩
theorem t_or {t u : TM} {rest : List Expr} (ha : PT X a (tT X.K W ow t)) (hb : PW X (.BoolOp .Or (b :: rest) pos) (tT X.K W ow u)) : PW X (.BoolOp .Or (a :: b :: rest) pos) (tT X.K W ow (orT t u)) :=
  PW.of (pw_or ha hb) fun σ H Q ⟨A, H0, O, en, R, q⟩ => ⟨A, H0, O, en, R, (Out.bind q).good fun k q1 H1 s1 => by
    cases k with
    | false =>
      rw [if_neg (by decide)] at q1 ⊢
      exact ⟨A, H0, O, en, R.to s1, (q1.to s1).good fun d2 q2 H2 s2 => q2 H2 (s1.trans s2)⟩
    | true =>
      rw [if_pos rfl] at q1 ⊢
      exact q1 H1 s1⟩
theorem t_not {t : TM} (ha : PT X a (tT X.K W ow t)) : PT X (.UnaryOp .Not a pos) (tT X.K W ow (notT t)) :=
  PT.of (pt_not ha) fun σ H Q ⟨A, H0, O, en, R, q⟩ => ⟨A, H0, O, en, R, (Out.bind q).good fun k q1 H1 s1 => q1 H1 s1⟩
/-! ### is None, is True -/
theorem isN_v {K : Frag} {A : AS} {H : Hp} {d : D} {v : V} (h : RepW K A H d v) : decide (v = .non) = isNon d := by
  cases d with
  | non =>
    have h' : v = .non := h
    subst h'
    rfl
  | bl b =>
    have h' : v = .bl b := h
    subst h'
    rfl
  | int b =>
    have h' : v = .int b := h
    subst h'
    rfl
  | str b =>
    have h' : v = .str (Str.ofString b) := h
    subst h'
    rfl
  | tup xs =>
    obtain ⟨a, vs, rfl, q, r⟩ := (by simpa only [RepW, Rep] using h : ∃ a vs, v = .ref a ∧ SqT K H a vs ∧ RepL K A H xs vs)
    rfl
  | lst xs =>
    obtain ⟨a, vs, rfl, q, r⟩ := h
    rfl
  | dic _ _ =>
    obtain ⟨a, rfl, _⟩ := h
    rfl
  | ins _ _ =>
    obtain ⟨a, dx, fvs, rfl, _⟩ := h
    rfl
  | drw q =>
    cases q with
    | inl k =>
      obtain ⟨a, a0, xs, rfl, _⟩ := (by simpa only [RepW, Rep] using h : ∃ a a0 xs, v = .ref a ∧ ¬ A a ∧ H a = some (poolO k a a0) ∧ ¬ A a0 ∧ Rd H a0 (.lst ((xs : List Int).map V.int)))
      rfl
    | inr q =>
      obtain ⟨rfl, _⟩ := (by simpa only [RepW, Rep] using h : v = .ref q.1 ∧ ¬ A q.1 ∧ Rd H q.1 (.lst (q.2.map V.int)))
      rfl
theorem x_isN {j pos'} (ha : PE X a (tW X.K W ow ma)) : PE X (.Compare a [.Is] [.Constant .none j pos'] pos) (tE X.K W ow (un oisN ma)) :=
  PE.of (pe_cmp (pc_isN ha)) fun σ H Q ⟨A, H0, O, en, R, q⟩ => ⟨A, H0, O, en, R, (Out.bind q).good fun d q1 v H1 s1 r1 => by
    dsimp only
    rw [isN_v r1]
    exact q1 _ _ s1 rep_bl⟩
theorem Bl.un {f : D → Res D} (hf : NoEx1 f) (h : ∀ x d, f x = .ok d → ∃ k, d = .bl k) {ma : EM} : Bl (un f ma) := fun e d q => by
  obtain ⟨d1, _, q⟩ := leaf_bind q
  exact h _ _ (leaf_isP (hf _ () ()) q)
theorem b_isN : ∀ x d, oisN x = .ok d → ∃ k, d = .bl k := fun x d h => ⟨_, (Res.ok.inj h).symm⟩
theorem t_isN {j pos'} (ha : PE X a (tW X.K W ow ma)) : PT X (.Compare a [.Is] [.Constant .none j pos'] pos) (tT X.K W ow (tst (un oisN ma))) :=
  PT.of (pt_cmp (pc_isN ha)) fun σ H Q h => by
    obtain ⟨A, H0, O, en, R, q⟩ := tst_of (Bl.un (fun _ _ _ => rfl) b_isN) h
    refine ⟨A, H0, O, en, R, (Out.bind q).good fun d q1 v H1 s1 r1 => ?_⟩
    dsimp only
    rw [isN_v r1]
    exact q1 _ _ s1 rep_bl
end
end Py
/-! Displays, subscripts, attributes, calls of built-ins. -/
namespace Py
open PySem L2 PySem.Spec PyProof.Rows
/-- values and data, one by one -/
theorem paired_rep {K : Frag} {A : AS} {H : Hp} : ∀ {vs : List V} {ds : List D}, Paired (fun v d => Rep K A H d v) vs ds → RepL K A H ds vs
  | _, _, .nil => by simp [RepL]
  | _, _, .cons r t => by
    simp only [RepL]
    exact ⟨_, _, rfl, r, paired_rep t⟩
section
variable {X : Cx} {W : WX} {A : AS} {H0 : Base} {ow : Ow} {a b c e : Expr} {es : List Expr} {m ma mb mc : EM} {am : AM} {pos : Pos}
/-! ### argument lists -/
abbrev aE (K : Frag) := tA (Rep K) K
theorem xa_nil {R : RR} : PA X [] (tA R X.K W ow argN) := PA.of pa_nil fun σ H Q ⟨A, H0, O, en, R', q⟩ => q [] H (Same.refl H) .nil
theorem xa_cons (ha : PE X e (tE X.K W ow m)) (hr : PA X es (aE X.K W ow am)) (hs : starEach (e :: es) X.env = (false, eval e X.env) :: starEach es X.env := by rfl) : PA X (e :: es) (aE X.K W ow (argC m am)) :=
  PA.of (pa_cons ha hr hs) fun σ H Q ⟨A, H0, O, en, R, q⟩ => ⟨A, H0, O, en, R, (Out.bind q).good fun d q1 v H1 s1 r1 => ⟨A, H0, O, en, R.to s1, ((Out.bind q1).to s1).good fun ds q2 vs H2 s2 r2 =>
    q2 (v :: vs) H2 (s1.trans s2) (.cons (Rep.move (Mv.same s2) _ _ r1) r2)⟩⟩
/-! ### displays -/
theorem x_tup {x1} (h : PA X es (aE X.K W ow am)) : PE X (.Tuple es x1 pos) (tE X.K W ow (tupE am)) :=
  PE.of (pe_tup h) fun σ H Q ⟨A, H0, O, en, R, q⟩ => ⟨A, H0, O, en, R, (Out.bind q).good fun ds q1 vs H1 s1 r1 => by
    have rl := paired_rep r1
    unfold chk at q1
    split at q1
    · rename_i z
      exact ⟨by rw [← rl.length]; exact z, fun p hp => q1 _ _ (s1.trans (new_same hp)) (new_tup rl hp)⟩
    · exact q1.elim⟩
theorem f_lst (h : PA X es (aE X.K W ow am)) : PE X (.List es pos) (tF X.K W ow (lstE am)) :=
  PE.of (pe_lst h) fun σ H Q ⟨A, H0, O, en, R, q⟩ => ⟨A, H0, O, en, R, (Out.bind q).good fun ds q1 vs H1 s1 r1 => by
    have rl := paired_rep r1
    unfold chk at q1
    split at q1
    · rename_i z
      refine ⟨by rw [← rl.length]; exact z, fun p hp => q1 p _ (s1.free hp) (s1.trans (new_same hp)) ⟨vs, upd_same, ?_⟩⟩
      refine RepL.move ⟨fun b hb => ?_, fun b o e _ => new_same hp b o e⟩ _ _ rl
      rcases hb with hb | rfl
      · exact .inl hb
      · exact .inr hp
    · exact q1.elim⟩
/-! ### subscripts -/
def r2n (K : Frag) (f : D → D → Res D) : R2 := fun x y H Q => ∃ A d1 d2 d, isDic d1 = false ∧ RepW K A H d1 x ∧ RepW K A H d2 y ∧ (∀ a, A a → H a ≠ none) ∧ f d1 d2 = .ok d ∧ ∀ v H', Same H H' → Rep K A H' d v → Q v H'
theorem y_idx0 : IxR X (r2n X.K oidx) := by
  intro value slice pins s σ H x y v u Q I rx ry ⟨A, d1, d2, d, hnd, h1, h2, ha, e, k⟩ hs
  cases d1 with
  | lst xs =>
    cases d2 <;> simp only [oidx, reduceCtorEq] at e
    rename_i i
    obtain ⟨a, vs, rfl, q, r⟩ := h1
    unfold opt at e
    split at e
    · rename_i d' he
      simp only [Res.ok.injEq] at e
      subst e
      unfold atI at he
      cases hj : ixN xs.length i with
      | none => rw [hj] at he; cases he
      | some j =>
        rw [hj] at he
        obtain ⟨w, hw, rw'⟩ := r.get (show xs[j]? = some d' from he)
        refine ix_list value slice pins s σ H _ _ v u Q I rx ry ⟨a, vs, i, w, rfl, h2, .inl q, ?_, k w H (Same.refl H) rw'⟩ hs
        unfold atI
        rw [← r.length, hj]
        exact hw
    · cases e
  | tup xs =>
    cases d2 <;> simp only [oidx, reduceCtorEq] at e
    rename_i i
    obtain ⟨a, vs, rfl, q, r⟩ := (by simpa only [RepW, Rep] using h1 : ∃ a vs, x = .ref a ∧ SqT X.K H a vs ∧ RepL X.K A H xs vs)
    unfold opt at e
    split at e
    · rename_i d' he
      simp only [Res.ok.injEq] at e
      subst e
      unfold atI at he
      cases hj : ixN xs.length i with
      | none => rw [hj] at he; cases he
      | some j =>
        rw [hj] at he
        obtain ⟨w, hw, rw'⟩ := r.get (show xs[j]? = some d' from he)
        refine ix_tup value slice pins s σ H _ _ v u Q I rx ry ⟨a, vs, i, w, rfl, h2, q, ?_, k w H (Same.refl H) rw'⟩ hs
        unfold atI
        rw [← r.length, hj]
        exact hw
    · cases e
  | str z =>
    cases d2 <;> simp only [oidx, reduceCtorEq] at e
    rename_i i
    split at e
    · rename_i hz
      have h1' : x = .str (Str.ofString z) := h1
      have h2' : y = .int i := h2
      subst h1' h2'
      unfold opt at e
      split at e
      · rename_i d' he
        simp only [Res.ok.injEq] at e
        subst e
        unfold atI at he
        cases hj : ixN z.toList.length i with
        | none => rw [hj] at he; cases he
        | some j =>
          rw [hj] at he
          have he1 : Option.map (fun c => D.str (String.ofList [c])) (z.toList[j]?) = some d' := he
          cases hc : z.toList[j]? with
          | none => rw [hc] at he1; cases he1
          | some ch =>
            rw [hc] at he1
            have he2 : D.str (String.ofList [ch]) = d' := Option.some.inj he1
            subst he2
            have e1 : (Str.ofString z).cps.toList = z.toList.map Char.toNat := by rw [Str.ofString_eq_toList]
            refine ix_str value slice pins s σ H _ _ v u Q I rx ry ⟨_, i, ch.toNat, rfl, rfl, by rw [str_len]; exact hz, ?_, ?_⟩ hs
            · unfold atI
              rw [e1, List.length_map, hj]
              show (List.map Char.toNat z.toList)[j]? = _
              rw [List.getElem?_map, hc]
              rfl
            · have e2 : Str.ofString (String.ofList [ch]) = ⟨#[ch.toNat]⟩ := by
                rw [Str.ofString_eq_toList, String.toList_ofList]
                rfl
              rw [← e2]
              exact k _ H (Same.refl H) rfl
      · cases e
    · cases e
  | dic t kvs => simp [isDic] at hnd
  | _ => simp [oidx] at e
theorem y_idx (hu : X.A.units + 16 < cLine) : IxR X (r2 X.K oidx) := by
  intro value slice pins s σ H x y v u Q I rx ry ⟨A, d1, d2, d, h1, h2, ha, e, k⟩ hs
  cases hnd : isDic d1 with
  | false => exact y_idx0 value slice pins s σ H x y v u Q I rx ry ⟨A, d1, d2, d, hnd, h1, h2, ha, e, k⟩ hs
  | true =>
    cases d1 <;> simp only [isDic, reduceCtorEq] at hnd
    rename_i t kvs
    simp only [oidx] at e
    split at e
    · rename_i hk
      obtain ⟨a, rfl, g⟩ := h1
      cases (show v = Value.ref a from rx)
      have h2' : Rep X.K A H d2 y := by
        cases d2 <;> first | exact h2 | (cases t <;> simp [keyOk] at hk)
      unfold opt at e
      split at e
      · rename_i d' hf
        simp only [Res.ok.injEq] at e
        subst e
        exact tail_any (dic_type I g) slot_dict_getitem.lookup (dic_get hu I g hk h2' ry hf fun v w' s' I' r' rv => ⟨v, H, I', r', k v H (Same.refl H) rv⟩) hs
      · cases e
    · cases e
theorem n_idx : NoEx2 oidx := fun x y c fs => by
  have ho : ∀ o, (opt o).isP = true := fun o => by cases o <;> rfl
  cases x <;> cases y <;> simp only [oidx] <;> first | rfl | exact ho _ | (split <;> first | exact ho _ | rfl)
theorem x_idx (hi : IxR X (r2 X.K oidx)) (ha : PE X a (tW X.K W ow ma)) (hb : PE X b (tW X.K W ow mb)) (hs : PlainIx b := by exact fun _ _ => rfl) : PE X (.Subscript a b pos) (tE X.K W ow (bin oidx ma mb)) :=
  PE.of (pe_ix hi ha hb hs) fun _ _ _ h => two_of n_idx h
/-! ### slices -/
theorem RepL.cut {K : Frag} {A : AS} {H : Hp} {ds : List D} {vs : List V} (h : RepL K A H ds vs) (lo hi : Option Int) : RepL K A H (Py.cut ds lo hi) (cutV vs lo hi) := by
  unfold Py.cut cutV
  rw [h.length]
  exact (h.drop _).take _
def rS (K : Frag) : V → Option Int → Option Int → Hp → VK → Prop := fun x lo hi H Q => ∃ A d1 d, RepW K A H d1 x ∧ (∀ a, A a → H a ≠ none) ∧ oslc d1 lo hi = .ok d ∧ ∀ v H', Same H H' → Rep K A H' d v → Q v H'
theorem cut_all {α : Type} {xs : List α} {lo hi : Option Int} (h : HT.sIx xs.length 0 lo = 0 ∧ HT.sIx xs.length xs.length hi = xs.length) : Py.cut xs lo hi = xs := by
  unfold Py.cut
  rw [h.1, h.2]
  simp
theorem y_slc : SlR X (rS X.K) := by
  intro pins s σ H x v vl vu lo hi sl Q I rx hs pl' pu h
  obtain ⟨A, d1, d, h1, ha, e, k⟩ := h
  cases d1 with
  | lst xs =>
    simp only [oslc, Res.ok.injEq] at e
    subst e
    obtain ⟨a, vs, rfl, q, r⟩ := h1
    exact sl_list pins s σ H _ v vl vu lo hi sl Q I rx hs pl' pu ⟨a, vs, rfl, .inl q, fun p hp => k _ _ (new_same hp) (new_lst ha (r.cut lo hi) hp)⟩
  | tup xs =>
    simp only [oslc, Res.ok.injEq] at e
    subst e
    obtain ⟨a, vs, rfl, q, r⟩ := (by simpa only [RepW, Rep] using h1 : ∃ a vs, x = .ref a ∧ SqT X.K H a vs ∧ RepL X.K A H xs vs)
    refine sl_tupA pins s σ H _ v vl vu lo hi sl Q I rx hs pl' pu ⟨a, vs, rfl, q, fun z => ?_, fun _ p hp => k _ _ (new_same hp) (new_tup (r.cut lo hi) hp)⟩
    rw [← r.length] at z
    rw [cut_all z] at k
    exact k _ H (Same.refl H) h1
  | str z =>
    simp only [oslc] at e
    split at e
    · rename_i hz
      simp only [Res.ok.injEq] at e
      subst e
      have h1' : x = .str (Str.ofString z) := h1
      subst h1'
      refine sl_str pins s σ H _ v vl vu lo hi sl Q I rx hs pl' pu ⟨_, rfl, by rw [str_len]; exact hz, ?_⟩
      have e1 : cutS (Str.ofString z) lo hi = Str.ofString (String.ofList (Py.cut z.toList lo hi)) := by
        rw [Str.ofString_eq_toList (String.ofList _), String.toList_ofList]
        unfold cutS Py.cut
        rw [str_len]
        rw [Str.ofString_eq_toList]
        simp [List.map_take, List.map_drop, String.length_toList]
      rw [e1]
      exact k _ H (Same.refl H) rfl
    · cases e
  | _ => simp [oslc] at e
end
end Py
/-! Slices as expressions, attributes, calls of built-ins, isinstance. -/
namespace Py
open PySem L2
/-! ### own classes: what isinstance and attributes ask -/
structure KitC (K : Frag) (cs : List String) (c : String) : Prop where
  cl : Cls K (ca K c)
  ha : PySem.W.findIn K (.ref (ca K c)) "__class__" = some (some (.builtin "object.__class__"))
  hn : PySem.W.specialIn K (.builtin "object.__class__") "__get__" = some (some (.builtin "getset_descriptor.__get__"))
  ht : PySem.W.takesIn K (.builtin "object.__class__") = some true
  hm : PySem.W.mroIn K (ca K c) (.type "object") = some true
  oo : ∀ d ∈ cs, PySem.W.kitOne K (.ref (ca K c)) (.ref (ca K d)) = some (decide (c = d))
  ob : ∀ T ∈ tyNames, PySem.W.kitOne K (.ref (ca K c)) (.type T) = some false
  bo : ∀ T ∈ tyNames, PySem.W.kitOne K (.type T) (.ref (ca K c)) = some false
def KitF (K : Frag) (cs : List String) : Prop := ∀ c ∈ cs, KitC K cs c
theorem kit_of_b {K : Frag} {cs : List String} (h : kitB K cs = true) : KitF K cs := fun c hc => by
  have h1 := List.all_eq_true.mp h c hc
  simp only [Bool.and_eq_true, decide_eq_true_eq, List.all_eq_true] at h1
  obtain ⟨a1, a2, a3, a4, a5, a6, a7⟩ := h1
  exact ⟨He.cls_ok a1, a2, a3, a4, a5, a6, fun T hT => (a7 T hT).1, fun T hT => (a7 T hT).2⟩
def tyN : Ty → String
  | .non => "NoneType" | .bl => "bool" | .int => "int" | .str => "str" | .tup => "tuple" | .lst => "list" | .dic => "dict" | .cls c => c
def tyV (K : Frag) : Ty → V
  | .cls c => .ref (ca K c)
  | t => .ty (tyN t)
def tyU (K : Frag) : Ty → Value
  | .cls c => .ref (ca K c)
  | t => .type (tyN t)
theorem ty_cls (K : Frag) (t : Ty) : ClsV (tyV K t) (tyU K t) := by
  cases t <;> first | exact .ty _ | exact .own _
theorem isI_ty (t : Ty) (d : D) (h : t ≠ .non) : isI t d = (decide (t = tyOf d) || (decide (tyOf d = .bl) && decide (t = .int))) := by
  cases d <;> cases t <;> simp [isI, tyOf] at h ⊢
theorem kit_one {K : Frag} {cs : List String} (F : KitF K cs) {t : Ty} {d : D} (h1 : inCs cs t = true) (h2 : inCs cs (tyOf d) = true) (hn : t ≠ .non) : PySem.W.kitOne K (tyU K (tyOf d)) (tyU K t) = some (isI t d) := by
  rw [isI_ty t d hn]
  cases ht : t with
  | cls c =>
    subst ht
    have hc : c ∈ cs := by simpa [inCs] using h1
    cases hd : tyOf d with
    | cls c' =>
      rw [hd] at h2
      have hc' : c' ∈ cs := by simpa [inCs] using h2
      have := (F c' hc').oo c hc
      show PySem.W.kitOne K (.ref (ca K c')) (.ref (ca K c)) = _
      rw [this]
      by_cases q : c = c'
      · subst q
        simp
      · have q2 : ¬ c' = c := fun z => q z.symm
        simp [q, q2]
    | _ =>
      show PySem.W.kitOne K (.type _) (.ref (ca K c)) = _
      rw [(F c hc).bo _ (by decide)]
      simp
  | non => exact absurd ht hn
  | _ =>
    cases hd : tyOf d with
    | cls c' =>
      rw [hd] at h2
      have hc' : c' ∈ cs := by simpa [inCs] using h2
      show PySem.W.kitOne K (.ref (ca K c')) (.type _) = _
      rw [(F c' hc').ob _ (by decide)]
      simp
    | _ => exact L2.kit_ty (by rw [← show tyN _ = _ from rfl]; decide +kernel)
theorem tyx_of {K : Frag} {cs : List String} (F : KitF K cs) {A : AS} {H : Hp} {d : D} {v : V} (h : RepW K A H d v) (h2 : inCs cs (tyOf d) = true) : TyX K H v (tyU K (tyOf d)) := by
  cases d with
  | non =>
    have h' : v = .non := h
    subst h'
    exact .base .non
  | bl b =>
    have h' : v = .bl b := h
    subst h'
    exact .base (.bl _)
  | int b =>
    have h' : v = .int b := h
    subst h'
    exact .base (.int _)
  | str b =>
    have h' : v = .str (Str.ofString b) := h
    subst h'
    exact .base (.str _)
  | tup xs =>
    obtain ⟨a, vs, rfl, q, r⟩ := (by simpa only [RepW, Rep] using h : ∃ a vs, v = .ref a ∧ SqT K H a vs ∧ RepL K A H xs vs)
    rcases q with (q | ⟨o, q⟩) | ⟨o, its, n, q1, q2, _⟩
    · exact .base (.tup q)
    · exact .fTuple q
    · exact .kTuple q1 q2
  | lst xs =>
    obtain ⟨a, vs, rfl, q, r⟩ := h
    rcases q with q | ⟨o, q⟩
    · exact .base (.lst q)
    · exact .base (.frz q)
  | dic _ _ => simp [inCs, tyOf] at h2
  | drw _ => simp [inCs, tyOf] at h2
  | ins c fs =>
    obtain ⟨a, dx, fvs, rfl, q, _⟩ := h
    have hc : c ∈ cs := by simpa [inCs, tyOf] using h2
    have k := F c hc
    exact .base (.ins q k.cl k.ha k.hn k.ht k.hm)
/-- isinstance(x, (t1, t2, ..)) -/
theorem n_isi {cs : List String} {ts : List Ty} : NoEx1 (oisi cs ts) := fun x c fs => by
  unfold oisi
  split <;> rfl
theorem isi_ok {cs : List String} {ts : List Ty} {d r : D} (h : oisi cs ts d = .ok r) : inCs cs (tyOf d) = true ∧ (∀ t ∈ ts, inCs cs t = true ∧ t ≠ .non) ∧ r = .bl (ts.any fun t => isI t d) := by
  unfold oisi at h
  split at h
  · rename_i c
    simp only [Bool.and_eq_true, List.all_eq_true, decide_eq_true_eq] at c
    simp only [Res.ok.injEq] at h
    exact ⟨c.1, c.2, h.symm⟩
  · cases h
theorem kit_any {K : Frag} {cs : List String} (F : KitF K cs) {d : D} (h2 : inCs cs (tyOf d) = true) : ∀ {ts : List Ty}, (∀ t ∈ ts, inCs cs t = true ∧ t ≠ .non) → PySem.W.kitAny K (tyU K (tyOf d)) (ts.map (tyU K)) = some (ts.any fun t => isI t d)
  | [], _ => rfl
  | t :: ts, h => by
    obtain ⟨a1, a2⟩ := h t (by simp)
    simp only [List.map_cons, List.any_cons]
    refine L2.kitAny_cons (kit_one F a1 h2 a2) (fun e => ?_) fun e => by rw [e]; rfl
    rw [e, Bool.false_or]
    exact kit_any F h2 fun t' h' => h t' (by simp [h'])
theorem RepL.reverse {K : Frag} {A : AS} {H : Hp} : ∀ {ds : List D} {vs : List V}, RepL K A H ds vs → RepL K A H ds.reverse vs.reverse
  | [], vs, h => by
    simp only [RepL] at h
    subst h
    simp [RepL]
  | d :: ds, vs, h => by
    simp only [RepL] at h
    obtain ⟨v, r, rfl, h1, h2⟩ := h
    simp only [List.reverse_cons]
    exact (RepL.reverse h2).append (RepL.one h1)
section
variable {X : Cx} {W : WX} {A : AS} {H0 : Base} {ow : Ow} {a b c e : Expr} {es : List Expr} {m ma mb mc : EM} {am : AM} {pos : Pos}
theorem x_isi1 {cs : List String} {t : Ty} {x : Str} {p : Pos} (hx : x = "isinstance") (F : KitF X.K cs) (hg : Gl X x) (hm : X.mg x = none) (ha : PE X a (tW X.K W ow ma)) (hb : PE X b (tC (tyV X.K t)))
    (hs : starEach [a, b] X.env = (false, eval a X.env) :: starEach [b] X.env := by rfl) (hs2 : starEach [b] X.env = [(false, eval b X.env)] := by rfl) (hpl : (backTo pos (starEach [b] X.env)).any (·.1) = false := by rfl) :
    PE X (.Call (.Name x p) [a, b] [] pos) (tE X.K W ow (un (oisi cs [t]) ma)) := by
  subst hx
  refine PE.of (pe_callB call_isi hg hm (by decide +kernel) (pa_cons ha (pa_cons hb pa_nil hs2) hs) (by decide) (by decide) hs hpl) fun σ H Q ⟨A, H0, O, en, R, q⟩ => ⟨A, H0, O, en, R, (Out.bind q).good fun d q1 v H1 s1 r1 => ?_⟩
  cases e : oisi cs [t] d with
  | exc _ _ =>
    rw [e] at q1
    exact absurd (e ▸ n_isi (cs := cs) d () () : (Res.exc _ _ : Res D).isP = true) (by simp [Res.isP])
  | pick _ _ =>
    exact absurd (e ▸ n_isi (cs := cs) d () () : (Res.pick _ _ : Res D).isP = true) (by simp [Res.isP])
  | stuck =>
    rw [e] at q1
    exact q1.elim
  | ok r =>
    rw [e] at q1
    obtain ⟨h1, h2, rfl⟩ := isi_ok e
    obtain ⟨h3, h4⟩ := h2 t (by simp)
    refine ⟨v, tyV X.K t, tyU X.K (tyOf d), tyU X.K t, isI t d, rfl, ty_cls _ _, tyx_of F r1 h1, kit_one F h3 h1 h4, ?_⟩
    have q2 := q1 (.bl ([t].any fun t => isI t d)) H1 s1 rep_bl
    simpa using q2
/-- a tuple of classes as written -/
inductive TyL (X : Cx) : List Expr → List Ty → TA → Prop
  | nil : TyL X [] [] tNil
  | cons {e : Expr} {es : List Expr} {t : Ty} {ts : List Ty} {r : TA} (h : PE X e (tC (tyV X.K t))) (k : TyL X es ts r) (hs : starEach (e :: es) X.env = (false, eval e X.env) :: starEach es X.env) : TyL X (e :: es) (t :: ts) (tCons (tC (tyV X.K t)) r)
theorem TyL.pa {es : List Expr} {ts : List Ty} {r : TA} (h : TyL X es ts r) : PA X es r := by
  induction h with
  | nil => exact pa_nil
  | cons h _ hs ih => exact pa_cons h ih hs
theorem TyL.run {es : List Expr} {ts : List Ty} {r : TA} (h : TyL X es ts r) : ∀ {σ : L2.St} {H : Hp} {Q : List V → Hp → Prop}, Q (ts.map (tyV X.K)) H → r σ H Q := by
  induction h with
  | nil => exact fun q => q
  | cons h _ hs ih => exact fun q => ih (Q := fun xs H2 => _) q
theorem ty_all (K : Frag) : ∀ ts : List Ty, Paired ClsV (ts.map (tyV K)) (ts.map (tyU K))
  | [] => .nil
  | t :: ts => .cons (ty_cls K t) (ty_all K ts)
theorem x_isiT {cs : List String} {ts : List Ty} {r : TA} {x : Str} {p tp : Pos} {tk} (hx : x = "isinstance") (F : KitF X.K cs) (hg : Gl X x) (hm : X.mg x = none) (ha : PE X a (tW X.K W ow ma)) (hb : TyL X es ts r) (hz : ts.length ≤ 20)
    (hs : starEach [a, .Tuple es tk tp] X.env = (false, eval a X.env) :: starEach [.Tuple es tk tp] X.env := by rfl) (hs2 : starEach [.Tuple es tk tp] X.env = [(false, eval (.Tuple es tk tp) X.env)] := by rfl) (hpl : (backTo pos (starEach [.Tuple es tk tp] X.env)).any (·.1) = false := by rfl) :
    PE X (.Call (.Name x p) [a, .Tuple es tk tp] [] pos) (tE X.K W ow (un (oisi cs ts) ma)) := by
  subst hx
  refine PE.of (pe_callB call_isiT hg hm (by decide +kernel) (pa_cons ha (pa_cons (pe_tup hb.pa) pa_nil hs2) hs) (by decide) (by decide) hs hpl) fun σ H Q ⟨A, H0, O, en, R, q⟩ => ⟨A, H0, O, en, R, (Out.bind q).good fun d q1 v H1 s1 r1 => ?_⟩
  cases e : oisi cs ts d with
  | exc _ _ =>
    rw [e] at q1
    exact absurd (e ▸ n_isi (cs := cs) d () () : (Res.exc _ _ : Res D).isP = true) (by simp [Res.isP])
  | pick _ _ =>
    exact absurd (e ▸ n_isi (cs := cs) d () () : (Res.pick _ _ : Res D).isP = true) (by simp [Res.isP])
  | stuck =>
    rw [e] at q1
    exact q1.elim
  | ok r =>
    rw [e] at q1
    obtain ⟨h1, h2, rfl⟩ := isi_ok e
    refine hb.run ⟨by rw [List.length_map]; exact Nat.le_trans hz (by decide), fun p hp => ?_⟩
    exact ⟨v, p, ts.map (tyV X.K), tyU X.K (tyOf d), ts.map (tyU X.K), _, rfl, upd_same, ty_all _ _, tyx_of F (r1.move (new_same hp)) h1, kit_any F h1 h2, q1 _ _ (s1.trans (new_same hp)) rep_bl⟩
/-! ### attributes -/
theorem x_attr {cs : List String} {f : String} (F : ∀ c ∈ cs, Cls X.K (ca X.K c) ∧ NoAttr X.K (ca X.K c) (Str.ofString f)) (ha : PE X a (tW X.K W ow ma))
    (hb : attributeBase a (Str.ofString f) X.env (eval a X.env) = eval a X.env := by rfl) : PE X (.Attribute a (Str.ofString f) pos) (tE X.K W ow (un (oattr cs f) ma)) :=
  PE.of (pe_fld ha hb) fun σ H Q ⟨A, H0, O, en, R, q⟩ => ⟨A, H0, O, en, R, (Out.bind q).good fun d q1 v H1 s1 r1 => by
    cases d with
    | ins c fs =>
      simp only [oattr] at q1
      split at q1
      · rename_i hc
        obtain ⟨h1, h2⟩ := F c (by simpa using hc)
        obtain ⟨p, dx, fvs, rfl, q2, r2⟩ := r1
        have lk := r2.look (f := f)
        cases hl : fs.lookup f with
        | none =>
          rw [hl] at q1
          exact q1.elim
        | some d' =>
          rw [hl] at q1 lk
          obtain ⟨v', e1, r'⟩ := lk
          exact ⟨p, _, dx, fvs, v', rfl, q2, h1, h2, e1, q1 v' H1 s1 r'⟩
      · exact q1.elim
    | _ => exact q1.elim⟩
/-! ### slices -/
/-- a part of a slice -/
def tO (K : Frag) (W : WX) (ow : Ow) (m : Option EM) : TO := fun σ H Q => ∃ A H0 O e, ER K A H0 ow O σ H e ∧
  Out (slc.bnd m e) (fun o => ∀ H', Same H H' → Q o H') (badE K W A O σ H)
theorem o_none : PO X none (tO X.K W ow none) := ⟨fun pins s σ H Q I ⟨A, H0, O, en, R, q⟩ => po_none.run pins s σ H Q I (q H (Same.refl H))⟩
theorem o_some (h : PE X e (tE X.K W ow m)) : PO X (some e) (tO X.K W ow (some m)) := ⟨fun pins s σ H Q I ⟨A, H0, O, en, R, q⟩ => (po_some h).run pins s σ H Q I ⟨A, H0, O, en, R, (Out.bind q).good fun d q1 v H1 s1 r1 => by
  cases d with
  | int i => exact ⟨i, r1, q1 H1 s1⟩
  | _ => exact q1.elim⟩⟩
theorem x_slc {lo hi : Option Expr} {ml mh : Option EM} {p2 : Pos} (ha : PE X a (tW X.K W ow ma)) (hl : PO X lo (tO X.K W ow ml)) (hh : PO X hi (tO X.K W ow mh)) : PE X (.Subscript a (.Slice lo hi none p2) pos) (tE X.K W ow (slc ma ml mh)) :=
  PE.of (pe_slice y_slc ha hl hh) fun σ H Q ⟨A, H0, O, en, R, q⟩ => ⟨A, H0, O, en, R, (Out.bind q).good fun d q1 v H1 s1 r1 => ⟨A, H0, O, en, R.to s1, ((Out.bind q1).to s1).good fun i q2 H2 s2 => ⟨A, H0, O, en, (R.to s1).to s2, ((Out.bind q2).to (s1.trans s2)).good fun j q3 H3 s3 => by
    cases e : oslc d i j with
    | ok z =>
      rw [e] at q3
      exact ⟨_, d, z, r1.move (s2.trans s3), (((R.to s1).to s2).to s3).there, e, fun v' H' s' r' => q3 v' H' (((s1.trans s2).trans s3).trans s') r'⟩
    | exc c fs =>
      exfalso
      cases d <;> simp only [oslc, reduceCtorEq] at e
      split at e <;> cases e
    | pick c fs =>
      exfalso
      cases d <;> simp only [oslc, reduceCtorEq] at e
      split at e <;> cases e
    | stuck =>
      rw [e] at q3
      exact q3.elim⟩⟩⟩
/-! ### built-in calls -/
def c1 (K : Frag) (f : D → Res D) : List V → Hp → VK → Prop := fun vs H Q => ∃ x, vs = [x] ∧ r1 K f x H Q
def c2 (K : Frag) (f : D → D → Res D) : List V → Hp → VK → Prop := fun vs H Q => ∃ x y, vs = [x, y] ∧ r2 K f x y H Q
theorem cimp {f : Value} {r r' : List V → Hp → VK → Prop} (h : CallR X f r) (k : ∀ x H Q, r' x H Q → r x H Q) : CallR X f r' := fun pins s σ H xs us Q I rx q => h pins s σ H xs us Q I rx (k xs H Q q)
theorem x_b1 {id : String} {x : Str} {p : Pos} {f : D → Res D} (hc : CallR X (.builtin id) (c1 X.K f)) (hf : NoEx1 f) (hg : Gl X x) (hm : X.mg x = none) (hv : bootBuiltins x = some (.builtin id)) (ha : PE X a (tW X.K W ow ma)) (hn : x ≠ "__name__" := by decide) (hdb : (x == ("__debug__" : Str)) = false := by decide)
    (hs : starEach [a] X.env = [(false, eval a X.env)] := by rfl) : PE X (.Call (.Name x p) [a] [] pos) (tE X.K W ow (un f ma)) :=
  PE.of (pe_callB hc hg hm hv (pa_cons ha pa_nil hs) hn hdb hs (by rfl)) fun σ H Q h => by
    obtain ⟨A, H0, O, en, R, q⟩ := one_of hf h
    exact ⟨A, H0, O, en, R, q.good fun d k v H' s r => ⟨v, rfl, k v H' s r⟩⟩
theorem x_t1 {id : String} {x : Str} {p : Pos} {f : D → Res D} (hc : CallR X (.type id) (c1 X.K f)) (hf : NoEx1 f) (hg : Gl X x) (hm : X.mg x = none) (hv : bootBuiltins x = some (.type id)) (ha : PE X a (tW X.K W ow ma)) (hn : x ≠ "__name__" := by decide) (hdb : (x == ("__debug__" : Str)) = false := by decide)
    (hs : starEach [a] X.env = [(false, eval a X.env)] := by rfl) : PE X (.Call (.Name x p) [a] [] pos) (tE X.K W ow (un f ma)) :=
  PE.of (pe_callTy hc hg hm hv (pa_cons ha pa_nil hs) hn hdb hs (by rfl)) fun σ H Q h => by
    obtain ⟨A, H0, O, en, R, q⟩ := one_of hf h
    exact ⟨A, H0, O, en, R, q.good fun d k v H' s r => ⟨v, rfl, k v H' s r⟩⟩
theorem x_b2 {id : String} {x : Str} {p : Pos} {f : D → D → Res D} (hc : CallR X (.builtin id) (c2 X.K f)) (hf : NoEx2 f) (hg : Gl X x) (hm : X.mg x = none) (hv : bootBuiltins x = some (.builtin id)) (ha : PE X a (tW X.K W ow ma)) (hb : PE X b (tW X.K W ow mb)) (hn : x ≠ "__name__" := by decide) (hdb : (x == ("__debug__" : Str)) = false := by decide)
    (hs : starEach [a, b] X.env = (false, eval a X.env) :: starEach [b] X.env := by rfl) (hs2 : starEach [b] X.env = [(false, eval b X.env)] := by rfl) (hpl : (backTo pos (starEach [b] X.env)).any (·.1) = false := by rfl) : PE X (.Call (.Name x p) [a, b] [] pos) (tE X.K W ow (bin f ma mb)) :=
  PE.of (pe_callB hc hg hm hv (pa_cons ha (pa_cons hb pa_nil hs2) hs) hn hdb hs hpl) fun σ H Q h => by
    obtain ⟨A, H0, O, en, R, q⟩ := two_of hf h
    refine ⟨A, H0, O, en, R, q.good fun d k v H' s r => ?_⟩
    obtain ⟨A2, H02, O2, en2, R2, q2⟩ := k v H' s r
    exact ⟨A2, H02, O2, en2, R2, q2.good fun d2 k2 v2 H2 s2 r2' => ⟨v, v2, rfl, k2 v2 H2 s2 r2'⟩⟩
theorem v_len0 : CallR X (.builtin "len") (fun vs H Q => ∃ x, vs = [x] ∧ ∃ A d1 d, isDic d1 = false ∧ RepW X.K A H d1 x ∧ blen d1 = .ok d ∧ ∀ v H', Same H H' → Rep X.K A H' d v → Q v H') := cimp call_len fun xs H Q ⟨x, e0, A, d1, d, hnd, h1, e, k⟩ => by
  subst e0
  cases d1 with
  | str s =>
    simp only [blen] at e
    split at e
    · rename_i hz
      simp only [Res.ok.injEq] at e
      subst e
      have h' : x = .str (Str.ofString s) := h1
      subst h'
      exact ⟨_, s.length, rfl, ⟨by rw [str_len]; exact hz, (str_len s).symm⟩, k _ H (Same.refl H) (flat_rep rfl _ _)⟩
    · cases e
  | tup xs =>
    simp only [blen, Res.ok.injEq] at e
    subst e
    obtain ⟨a, vs, rfl, q, r⟩ := (by simpa only [RepW, Rep] using h1 : ∃ a vs, x = .ref a ∧ SqT X.K H a vs ∧ RepL X.K A H xs vs)
    refine ⟨_, xs.length, rfl, .inr ⟨vs, q, r.length⟩, k _ H (Same.refl H) (flat_rep rfl _ _)⟩
  | lst xs =>
    simp only [blen, Res.ok.injEq] at e
    subst e
    obtain ⟨a, vs, rfl, q, r⟩ := h1
    refine ⟨_, xs.length, rfl, .inl ⟨vs, .inl q, r.length⟩, k _ H (Same.refl H) (flat_rep rfl _ _)⟩
  | dic t kvs => simp [isDic] at hnd
  | _ => simp [blen] at e
theorem v_len : CallR X (.builtin "len") (c1 X.K blen) := fun pins s σ H xs us Q I rx ⟨x, e0, A, d1, d, h1, ha, e, k⟩ => by
  cases hnd : isDic d1 with
  | false => exact v_len0 pins s σ H xs us Q I rx ⟨x, e0, A, d1, d, hnd, h1, e, k⟩
  | true =>
    cases d1 <;> simp only [isDic, reduceCtorEq] at hnd
    simp only [blen, Res.ok.injEq] at e
    subst e
    obtain ⟨a, rfl, g⟩ := h1
    subst e0
    cases rx with
    | cons r rr =>
      cases rr
      cases (show _ = Value.ref a from r)
      exact dic_len I g RepT.len RepK.len fun t' s' I' => ⟨.int _, H, I', ⟨t', rfl⟩, k _ H (Same.refl H) (flat_rep rfl _ _)⟩
theorem n_len : NoEx1 blen := fun x c fs => by
  cases x <;> simp only [blen] <;> first | (split <;> rfl) | rfl
theorem v_int : CallR X (.type "int") (c1 X.K bint) := cimp call_int1 fun xs H Q ⟨x, e0, A, d1, d, h1, _, e, k⟩ => by
  subst e0
  cases d1 with
  | int i =>
    simp only [bint, Res.ok.injEq] at e
    subst e
    have h' : x = .int i := h1
    subst h'
    exact .inl ⟨i, rfl, k _ H (Same.refl H) (flat_rep rfl _ _)⟩
  | bl b =>
    simp only [bint, Res.ok.injEq] at e
    subst e
    have h' : x = .bl b := h1
    subst h'
    exact .inr ⟨b, rfl, k _ H (Same.refl H) (flat_rep rfl _ _)⟩
  | _ => simp [bint] at e
theorem n_int : NoEx1 bint := fun x c fs => by cases x <;> rfl
theorem v_tuple : CallR X (.type "tuple") (c1 X.K btuple) := cimp call_tuple_of fun xs H Q ⟨x, e0, A, d1, d, h1, ha, e, k⟩ => by
  subst e0
  cases d1 with
  | lst xs =>
    simp only [btuple, Res.ok.injEq] at e
    subst e
    obtain ⟨a, vs, rfl, q, r⟩ := h1
    exact ⟨a, vs, rfl, .inl ⟨.inl q, fun l hl => k _ _ (new_same hl) (new_tup r hl)⟩⟩
  | tup xs =>
    simp only [btuple, Res.ok.injEq] at e
    subst e
    obtain ⟨a, vs, rfl, q, r⟩ := (by simpa only [RepW, Rep] using h1 : ∃ a vs, x = .ref a ∧ SqT X.K H a vs ∧ RepL X.K A H xs vs)
    exact ⟨a, vs, rfl, .inr ⟨q, k _ H (Same.refl H) h1⟩⟩
  | _ => simp [btuple] at e
theorem n_tuple : NoEx1 btuple := fun x c fs => by cases x <;> rfl
theorem ints_of {K : Frag} {A : AS} {H : Hp} : ∀ {ds : List D} {vs : List V} {is : List Int}, RepL K A H ds vs → intsOf ds = some is → vs = is.map V.int
  | [], vs, is, h, e => by
    simp only [RepL] at h
    simp only [intsOf, Option.some.injEq] at e
    subst h e
    rfl
  | d :: ds, vs, is, h, e => by
    simp only [RepL] at h
    obtain ⟨v, r, rfl, h1, h2⟩ := h
    cases d with
    | int i =>
      simp only [intsOf] at e
      cases q : intsOf ds with
      | none => rw [q] at e; cases e
      | some js =>
        rw [q] at e
        have e2 : i :: js = is := Option.some.inj e
        subst e2
        have h1' : v = .int i := h1
        rw [h1', ints_of h2 q]
        rfl
    | _ => simp [intsOf] at e
theorem bools_of {K : Frag} {A : AS} {H : Hp} : ∀ {ds : List D} {vs : List V} {is : List Bool}, RepL K A H ds vs → boolsOf ds = some is → vs = is.map V.bl
  | [], vs, is, h, e => by
    simp only [RepL] at h
    simp only [boolsOf, Option.some.injEq] at e
    subst h e
    rfl
  | d :: ds, vs, is, h, e => by
    simp only [RepL] at h
    obtain ⟨v, r, rfl, h1, h2⟩ := h
    cases d with
    | bl i =>
      simp only [boolsOf] at e
      cases q : boolsOf ds with
      | none => rw [q] at e; cases e
      | some js =>
        rw [q] at e
        have e2 : i :: js = is := Option.some.inj e
        subst e2
        have h1' : v = .bl i := h1
        rw [h1', bools_of h2 q]
        rfl
    | _ => simp [boolsOf] at e
theorem v_sum (hc : X.calm = true) : CallR X (.builtin "sum") (c1 X.K bsum) := cimp (cr_sum hc) fun xs H Q ⟨x, e0, A, d1, d, h1, ha, e, k⟩ => by
  subst e0
  cases d1 with
  | lst xs =>
    simp only [bsum] at e
    split at e
    · rename_i is hi
      simp only [Res.ok.injEq] at e
      subst e
      obtain ⟨a, vs, rfl, q, r⟩ := h1
      have e1 := ints_of r hi
      subst e1
      exact ⟨a, is, rfl, .inl q, k _ H (Same.refl H) (flat_rep rfl _ _)⟩
    · cases e
  | _ => simp [bsum] at e
theorem v_all (hc : X.calm = true) : CallR X (.builtin "all") (c1 X.K ball) := cimp (cr_all hc) fun xs H Q ⟨x, e0, A, d1, d, h1, ha, e, k⟩ => by
  subst e0
  cases d1 with
  | lst xs =>
    simp only [ball] at e
    split at e
    · rename_i is hi
      simp only [Res.ok.injEq] at e
      subst e
      obtain ⟨a, vs, rfl, q, r⟩ := h1
      have e1 := bools_of r hi
      subst e1
      exact ⟨a, is, rfl, .inl q, k _ H (Same.refl H) (flat_rep rfl _ _)⟩
    · cases e
  | _ => simp [ball] at e
theorem v_any (hc : X.calm = true) : CallR X (.builtin "any") (c1 X.K bany) := cimp (cr_any hc) fun xs H Q ⟨x, e0, A, d1, d, h1, ha, e, k⟩ => by
  subst e0
  cases d1 with
  | lst xs =>
    simp only [bany] at e
    split at e
    · rename_i is hi
      simp only [Res.ok.injEq] at e
      subst e
      obtain ⟨a, vs, rfl, q, r⟩ := h1
      have e1 := bools_of r hi
      subst e1
      exact ⟨a, is, rfl, .inl q, k _ H (Same.refl H) (flat_rep rfl _ _)⟩
    · cases e
  | _ => simp [bany] at e
theorem n_sum : NoEx1 bsum := fun x c fs => by
  cases x <;> simp only [bsum] <;> first | (split <;> rfl) | rfl
theorem n_all : NoEx1 ball := fun x c fs => by
  cases x <;> simp only [ball] <;> first | (split <;> rfl) | rfl
theorem n_any : NoEx1 bany := fun x c fs => by
  cases x <;> simp only [bany] <;> first | (split <;> rfl) | rfl
theorem v_min2 (hc : X.calm = true) : CallR X (.builtin "min") (c2 X.K bmin2) := cimp (call_min2 hc) fun xs H Q ⟨x, y, e0, A, d1, d2, d, h1, h2, ha, e, k⟩ => by
  subst e0
  cases d1 <;> cases d2 <;> simp only [bmin2, Res.ok.injEq, reduceCtorEq] at e
  subst e
  rename_i i j
  exact ⟨i, j, by rw [rep_int h1, rep_int h2], k _ H (Same.refl H) (flat_rep rfl _ _)⟩
theorem n_min2 : NoEx2 bmin2 := fun x y c fs => by cases x <;> cases y <;> rfl
/-- list(x) as a new list -/
theorem f_list {x : Str} {p : Pos} (hx : x = "list") (hg : Gl X x) (hm : X.mg x = none) (ha : PE X a (tW X.K W ow ma)) (hs : starEach [a] X.env = [(false, eval a X.env)] := by rfl) : PE X (.Call (.Name x p) [a] [] pos) (tF X.K W ow (un blist ma)) := by
  subst hx
  refine PE.of (pe_callTy call_list_of hg hm (by decide +kernel) (pa_cons ha pa_nil hs) (by decide) (by decide) hs (by rfl)) fun σ H Q ⟨A, H0, O, en, R, q⟩ => ⟨A, H0, O, en, R, (Out.bind q).good fun d q1 v H1 s1 r1 => ?_⟩
  cases d with
  | lst xs =>
    obtain ⟨a, vs, rfl, q, r⟩ := r1
    exact ⟨a, vs, rfl, .inl (.inl q), fun l hl => q1 l _ (s1.free hl) (s1.trans (new_same hl)) ⟨vs, upd_same, RepL.move ⟨fun b hb => hb.elim .inl fun z => by subst z; exact .inr hl, fun b o e _ => new_same hl b o e⟩ _ _ r⟩⟩
  | tup xs =>
    obtain ⟨a, vs, rfl, q, r⟩ := (by simpa only [RepW, Rep] using r1 : ∃ a vs, v = .ref a ∧ SqT X.K H1 a vs ∧ RepL X.K (AO A O) H1 xs vs)
    exact ⟨a, vs, rfl, .inr q, fun l hl => q1 l _ (s1.free hl) (s1.trans (new_same hl)) ⟨vs, upd_same, RepL.move ⟨fun b hb => hb.elim .inl fun z => by subst z; exact .inr hl, fun b o e _ => new_same hl b o e⟩ _ _ r⟩⟩
  | _ => exact q1.elim
end
end Py
/-! What is walked, targets, comprehensions. -/
namespace Py
open PySem L2
/-- J gives the data xs, one a turn, as long as the heap moves so -/
def Itm (M : AS → Hp → AS → Hp → Prop) (K : Frag) (A : AS) (J : It) (xs : List D) (H : Hp) : Prop := ∀ i A2 H2, M A H A2 H2 →
  (i < xs.length → J.go i H2 ∧ ∀ x H3, J.yld i H2 x H3 → Same H2 H3 ∧ ∃ d, xs[i]? = some d ∧ Rep K A2 H3 d x) ∧ (i = xs.length → J.stop i H2)
/-- .. as it only grows -/
def Gr (A : AS) (H : Hp) (A' : AS) (H' : Hp) : Prop := (∀ a, A' a → A a ∨ H a = none) ∧ Same H H'
theorem Gr.mv {A A' : AS} {H H' : Hp} (h : Gr A H A' H') : Mv A H A' H' := ⟨h.1, fun a o e _ => h.2 a o e⟩
abbrev MvT := AS → Hp → AS → Hp → Prop
theorem Itm.gr {K : Frag} {A : AS} {J : It} {xs : List D} {H : Hp} (h : Itm Mv K A J xs H) : Itm Gr K A J xs H := fun i A2 H2 m => h i A2 H2 m.mv
def tI (M : MvT) (K : Frag) (W : WX) (ow : Ow) (m : IM) : TI := fun σ H R => ∃ A H0 O e, ER K A H0 ow O σ H e ∧
  Out (m e) (fun xs => ∀ J H', Same H H' → Itm M K (AO A O) J xs H' → R J H') (badE K W A O σ H)
theorem PI.of {X : Cx} {tg iter : Expr} {t t' : TI} (h : PI X tg iter t) (k : ∀ σ H R, t' σ H R → t σ H R) : PI X tg iter t' := ⟨fun pins s σ H R I q => h.run pins s σ H R I (k σ H R q)⟩
section
variable {X : Cx} {W : WX} {A : AS} {H0 : Base} {ow : Ow} {tg a b c e : Expr} {es : List Expr} {m ma mb mc : EM} {am : AM} {pos p : Pos}
/-- a list or a tuple -/
theorem pi_either {l : Expr} {tl : TE} (hl : PE X l tl) : PI X tg l (fun σ H R => tl σ H fun x H1 => ∃ a, x = .ref a ∧ ((∃ xs, SqL X.K H1 a xs ∧ R (Itl X.K a) H1) ∨ ∃ xs, SqT X.K H1 a xs ∧ R (Itt X.K a) H1)) := by
  refine ⟨fun pins s σ H R I h => ?_⟩
  refine thn (hl.run pins s σ H _ I h) fun v s1 ⟨x, H1, I1, r1, q1⟩ => ?_
  obtain ⟨a, e, q⟩ := q1
  subst e
  cases r1
  have fin : ∀ b ∈ [s1.heap.objs.size], FpOk X pins H1 b := fun b hb => by
    have e : b = s1.heap.objs.size := by simpa using hb
    subst e
    exact I1.fpOk (Nat.le_refl _) (I1.hok.fresh (Nat.le_refl _))
  rcases q with ⟨xs, hq, q⟩ | ⟨xs, hq, q⟩
  · obtain ⟨its, rv, p, hz⟩ := I1.list hq
    refine wpAny_pyIter_list p.isList ?_
    exact ⟨s1.heap.objs.size, [s1.heap.objs.size], _, _, H1, rfl, I1.kept (t' := s1.toks) fun b o e => Heap.get?_push_of_some _ e, turn_list a _, ⟨_, Heap.get?_push_size _ rfl, rfl, rfl⟩, fin, q⟩
  · obtain ⟨its, rv, p, hz⟩ := I1.tuple hq
    refine wpAny_pyIter_tuple (show s1.heap.IsTuple a its.toArray from p) ?_
    exact ⟨s1.heap.objs.size, [s1.heap.objs.size], _, _, H1, rfl, I1.kept (t' := s1.toks) fun b o e => Heap.get?_push_of_some _ e, turn_tuple a _, ⟨_, Heap.get?_push_size _ rfl, rfl, rfl⟩, fin, q⟩
theorem itm_tup {K : Frag} {A : AS} {H : Hp} {a : Addr} {ds : List D} {vs : List V} (q : SqT K H a vs) (r : RepL K A H ds vs) : Itm Mv K A (Itt K a) ds H := fun i A2 H2 m => by
  have q2 := SqT.move m q
  have r2 := RepL.move m ds vs r
  refine ⟨fun hi => ?_, fun hi => ⟨vs, q2, by rw [← r.length]; exact Nat.le_of_eq hi.symm⟩⟩
  obtain ⟨v, hv, rv⟩ := r2.get (i := i) (List.getElem?_eq_getElem hi)
  refine ⟨⟨vs, v, q2, hv⟩, fun x H3 ⟨e, k⟩ => ?_⟩
  subst e
  have := k vs q2
  rw [hv] at this
  cases this
  exact ⟨Same.refl _, _, List.getElem?_eq_getElem hi, rv⟩
theorem itm_lst {M : MvT} {K : Frag} {A : AS} {H : Hp} {a : Addr} {ds : List D} {vs : List V} (hM : ∀ A2 H2, M A H A2 H2 → Mv A H A2 H2 ∧ Rd H2 a (.lst vs)) (r : RepL K A H ds vs) : Itm M K A (Itl K a) ds H := fun i A2 H2 m => by
  obtain ⟨mv, rd⟩ := hM A2 H2 m
  have q2 : SqL K H2 a vs := .inl rd
  have r2 := RepL.move mv ds vs r
  refine ⟨fun hi => ?_, fun hi => ⟨vs, q2, by rw [← r.length]; exact Nat.le_of_eq hi.symm⟩⟩
  obtain ⟨v, hv, rv⟩ := r2.get (i := i) (List.getElem?_eq_getElem hi)
  refine ⟨⟨vs, v, q2, hv⟩, fun x H3 ⟨e, k⟩ => ?_⟩
  subst e
  have := k vs q2
  rw [hv] at this
  cases this
  exact ⟨Same.refl _, _, List.getElem?_eq_getElem hi, rv⟩
/-- for a for: a clean list or tuple -/
theorem i_seq (ha : PE X a (tE X.K W ow ma)) : PI X tg a (tI Mv X.K W ow (iseq ma)) :=
  PI.of (pi_either ha) fun σ H R' ⟨A, H0, O, en, R, q⟩ => ⟨A, H0, O, en, R, (Out.bind q).good fun d q1 v H1 s1 r1 => by
    cases d with
    | lst xs =>
      obtain ⟨p, vs, rfl, n, h, r⟩ := (by simpa only [Rep] using r1 : ∃ a vs, v = .ref a ∧ ¬ AO A O a ∧ Rd H1 a (.lst vs) ∧ RepL X.K (AO A O) H1 xs vs)
      exact ⟨p, rfl, .inl ⟨vs, .inl h, q1 _ H1 s1 (itm_lst (fun A2 H2 m => ⟨m, (Rd.move m h n).1⟩) r)⟩⟩
    | tup xs =>
      obtain ⟨p, vs, rfl, h, r⟩ := (by simpa only [Rep] using r1 : ∃ a vs, v = .ref a ∧ SqT X.K H1 a vs ∧ RepL X.K (AO A O) H1 xs vs)
      exact ⟨p, rfl, .inr ⟨vs, h, q1 _ H1 s1 (itm_tup h r)⟩⟩
    | _ => exact q1.elim⟩
theorem i_gr {it : IM} (h : PI X tg a (tI Mv X.K W ow it)) : PI X tg a (tI Gr X.K W ow it) :=
  PI.of h fun σ H R' ⟨A, H0, O, en, R, q⟩ => ⟨A, H0, O, en, R, q.good fun xs k J H' s i => k J H' s i.gr⟩
theorem itm_range {K : Frag} {A : AS} {H : Hp} {lo hi : Int} : Itm Mv K A (Itr lo (hi - lo).toNat) (rngL lo hi) H := fun i A2 H2 m => by
  have hl : (rngL lo hi).length = (hi - lo).toNat := by unfold rngL; simp
  rw [hl]
  refine ⟨fun h => ⟨h, fun x H3 ⟨e1, e2⟩ => ?_⟩, fun h => Nat.le_of_eq h.symm⟩
  subst e1 e2
  refine ⟨Same.refl _, .int (lo + (i : Nat)), ?_, rfl⟩
  unfold rngL
  rw [List.getElem?_map, List.getElem?_range h]
  rfl
theorem nb62 {n : Int} (h : n.natAbs < B62) : -(2 : Int) ^ 62 ≤ n ∧ n < 2 ^ 62 := by
  have e : (2 : Int) ^ 62 = 4611686018427387904 := by decide
  rw [e]
  unfold B62 at h
  omega
theorem rng1_of {σ : L2.St} {H : Hp} {R' : It → Hp → Prop} (h : tI Mv X.K W ow (irng1 ma) σ H R') : iRng1 (tCons (tE X.K W ow ma) tNil) σ H R' := by
  obtain ⟨A, H0, O, en, R, q⟩ := h
  refine ⟨A, H0, O, en, R, (Out.bind q).good fun d q1 v H1 s1 r1 => ?_⟩
  cases d with
  | int n =>
    simp only at q1
    split at q1
    · rename_i z
      have r1' : v = .int n := r1
      subst r1'
      refine ⟨n, rfl, (nb62 z).1, (nb62 z).2, ?_⟩
      have k := q1 (Itr 0 (n - 0).toNat) H1 s1 itm_range
      have e : n - 0 = n := Int.sub_zero n
      rw [e] at k
      exact k
    · exact q1.elim
  | _ => exact q1.elim
theorem i_rng1 (hg : Gl X "range") (hm : X.mg "range" = none) (ha : PE X a (tE X.K W ow ma)) (hs : starEach [a] X.env = [(false, eval a X.env)] := by rfl) : PI X tg (.Call (.Name "range" p) [a] [] pos) (tI Mv X.K W ow (irng1 ma)) :=
  PI.of (pi_range1 hg hm (pa_cons ha pa_nil hs) hs) fun σ H R' h => rng1_of h
theorem i_rng2 (hg : Gl X "range") (hm : X.mg "range" = none) (ha : PE X a (tE X.K W ow ma)) (hb : PE X b (tE X.K W ow mb)) (hs : starEach [a, b] X.env = [(false, eval a X.env), (false, eval b X.env)] := by rfl) (hs2 : starEach [b] X.env = [(false, eval b X.env)] := by rfl) :
    PI X tg (.Call (.Name "range" p) [a, b] [] pos) (tI Mv X.K W ow (irng2 ma mb)) :=
  PI.of (pi_range2 hg hm (pa_cons ha (pa_cons hb pa_nil hs2) (by rw [hs, hs2])) hs hs2) fun σ H R' ⟨A, H0, O, en, R, q⟩ => ⟨A, H0, O, en, R, (Out.bind q).good fun d q1 v H1 s1 r1 => ⟨A, H0, O, en, R.to s1, ((Out.bind q1).to s1).good fun d2 q2 v2 H2 s2 r2 => by
    cases d with
    | int i =>
      cases d2 with
      | int n =>
        simp only at q2
        split at q2
        · rename_i z
          have r1' : v = .int i := r1
          have r2' : v2 = .int n := r2
          subst r1' r2'
          exact ⟨i, n, rfl, ⟨(nb62 z.1).1, (nb62 z.1).2, (nb62 z.2).1, (nb62 z.2).2⟩, q2 (Itr i (n - i).toNat) H2 (s1.trans s2) itm_range⟩
        · exact q2.elim
      | _ => exact q2.elim
    | _ => exact q2.elim⟩⟩
/-! ### targets -/
/-- a target: ts are the slots that it sets -/
def tGt (K : Frag) (ow : Ow) (ts : List Nat) (g : GM) : TG := fun v σ H Q => ∃ A H0 O e d e', ER K A H0 ow O σ H e ∧ Rep K (AO A O) H d v ∧ g d e = some e' ∧
  ∀ σ', ER K A H0 ow O σ' H e' → σ'.length = σ.length → (∀ j, j ∉ ts → σ'[j]? = σ[j]?) → Q σ' H
theorem PG.of {tg : Expr} {t t' : TG} (h : PG X tg t) (k : ∀ v σ H Q, t' v σ H Q → t v σ H Q) : PG X tg t' := ⟨fun pins s σ H v u Q I r q => h.run pins s σ H v u Q I r (k v σ H Q q)⟩
theorem g_nm {i : Nat} (h : PG X tg (gName i)) (hi : ow i = false) : PG X tg (tGt X.K ow [i] (gnm i)) :=
  PG.of h fun v σ H Q ⟨A, H0, O, en, d, e', R, r, g, q⟩ => by
    cases g
    exact q _ (R.set hi r) (by simp) fun j hj => by
      have : i ≠ j := fun z => hj (by simp [z])
      rw [List.getElem?_set_ne this]
def tGts (K : Frag) (ow : Ow) (ts : List Nat) (gs : List GM) : TGs := fun vs σ H Q => ∃ A H0 O e ds e', ER K A H0 ow O σ H e ∧ RepL K (AO A O) H ds vs ∧ gtupL gs ds e = some e' ∧
  ∀ σ', ER K A H0 ow O σ' H e' → σ'.length = σ.length → (∀ j, j ∉ ts → σ'[j]? = σ[j]?) → Q σ' H
theorem PGs.of {tg : List Expr} {t t' : TGs} (h : PGs X tg t) (k : ∀ v σ H Q, t' v σ H Q → t v σ H Q) : PGs X tg t' := ⟨fun pins s σ H v u Q I r q => h.run pins s σ H v u Q I r (k v σ H Q q)⟩
theorem gs_nil : PGs X [] (tGts X.K ow [] []) := PGs.of pgs_nil fun vs σ H Q ⟨A, H0, O, en, ds, e', R, r, g, q⟩ => by
  cases ds with
  | nil =>
    simp only [RepL] at r
    subst r
    cases g
    exact ⟨rfl, q σ R rfl fun _ _ => rfl⟩
  | cons d ds => cases g
theorem gs_cons {ts us : List Nat} {g : GM} {gs : List GM} (h1 : PG X e (tGt X.K ow ts g)) (h2 : PGs X es (tGts X.K ow us gs))
    (hs : (assignEach (e :: es) X.env).map (·.2) = assign e X.env :: (assignEach es X.env).map (·.2) := by rfl) : PGs X (e :: es) (tGts X.K ow (ts ++ us) (g :: gs)) :=
  PGs.of (pgs_cons h1 h2 hs) fun vs σ H Q ⟨A, H0, O, en, ds, e', R, r, ge, q⟩ => by
    cases ds with
    | nil => cases ge
    | cons d ds =>
      simp only [RepL] at r
      obtain ⟨v, r', rfl, r1, r2⟩ := r
      simp only [gtupL] at ge
      cases e1 : g d en with
      | none => rw [e1] at ge; cases ge
      | some en1 =>
        rw [e1] at ge
        refine ⟨v, r', rfl, A, H0, O, en, d, en1, R, r1, e1, fun σ1 R1 l1 k1 => ⟨A, H0, O, en1, ds, e', R1, r2, ge, fun σ2 R2 l2 k2 => q σ2 R2 (l2.trans l1) fun j hj => ?_⟩⟩
        rw [k2 j fun z => hj (by simp [z]), k1 j fun z => hj (by simp [z])]
theorem gtupL_len : ∀ {gs : List GM} {ds : List D} {e e' : Env}, gtupL gs ds e = some e' → ds.length = gs.length
  | [], [], _, _, _ => rfl
  | [], _ :: _, _, _, h => by cases h
  | _ :: _, [], _, _, h => by cases h
  | g :: gs, d :: ds, e, e', h => by
    simp only [gtupL] at h
    cases e1 : g d e with
    | none => rw [e1] at h; cases h
    | some e2 =>
      rw [e1] at h
      simp only [List.length_cons]
      rw [gtupL_len (show gtupL gs ds e2 = some e' from h)]
theorem g_tup {ts : List Nat} {gs : List GM} {n k : Nat} (hc : X.calm = true) (h : PGs X es (tGts X.K ow ts gs)) (hn : (assignEach es X.env).length = n := by rfl) (hl : gs.length = n := by rfl)
    (hst : (assignEach es X.env).findIdx? (·.1) = none := by rfl) : PG X (.Tuple es k pos) (tGt X.K ow ts (gtup gs)) :=
  PG.of (pg_tup hc h hn hst) fun v σ H Q ⟨A, H0, O, en, d, e', R, r, g, q⟩ => by
    cases d with
    | tup xs =>
      obtain ⟨a, vs, rfl, h, r⟩ := (by simpa only [Rep] using r : ∃ a vs, v = .ref a ∧ SqT X.K H a vs ∧ RepL X.K (AO A O) H xs vs)
      exact ⟨a, vs, rfl, h, by rw [← r.length, ← hl]; exact gtupL_len g, A, H0, O, en, xs, e', R, r, g, q⟩
    | _ => cases g
/-! ### comprehensions -/
abbrev W0 : WX := fun _ _ _ _ => False
theorem wipe_eq : ∀ {vs : List Nat} {σ σ' : L2.St}, σ'.length = σ.length → (∀ j, j ∉ vs → σ'[j]? = σ[j]?) → L2.wipe σ' vs = L2.wipe σ vs := fun {vs σ σ'} hl h => by
  apply List.ext_getElem?
  intro i
  by_cases hi : i ∈ vs
  · have key : ∀ (us : List Nat) (τ : L2.St), i ∈ us → (L2.wipe τ us)[i]? = if i < τ.length then some none else none := by
      intro us τ
      induction us with
      | nil => intro h; cases h
      | cons u us ih =>
        intro hm
        unfold L2.wipe
        by_cases hu : u = i
        · subst hu
          rw [List.getElem?_set]
          simp only [if_true, L2.wipe_length]
        · rw [List.getElem?_set_ne hu]
          exact ih (by
            rcases List.mem_cons.mp hm with z | z
            · exact absurd z.symm hu
            · exact z)
    rw [key vs σ' hi, key vs σ hi, hl]
  · rw [L2.wipe_out hi, L2.wipe_out hi]
    exact h i hi
theorem compL_drop {f : D → Res (Option D)} {xs : List D} {i : Nat} {G : List D → Prop} {F : String → List (String × D) → Prop} (hi : i < xs.length) (h : Out (compL f (xs.drop i)) G F) :
    Out (f xs[i]) (fun o => Out (compL f (xs.drop (i + 1))) (fun zs => G (match o with | some y => y :: zs | none => zs)) F) F := by
  rw [List.drop_eq_getElem_cons hi] at h
  simp only [compL] at h
  exact (Out.bind h).good fun o h2 => (Out.bind h2).good fun zs h3 => h3
theorem noexc_of {α β : Type} {r : Res α} {k : α → Res β} {good : β → Prop} {bad bad' : String → List (String × D) → Prop} (h : Out (noexc r >>= k) good bad) : Out r (fun a => Out (k a) good bad) bad' := (Out.bind h).noexc
theorem ER.more {K : Frag} {A A' : AS} {H0 : Base} {ow : Ow} {O : OW} {σ : L2.St} {H H' : Hp} {e : Env} (R : ER K A H0 ow O σ H e) (h0 : ∀ a, A' a → H' a ≠ none) (s : Same H H') (hA : ∀ a, A' a → A a ∨ H a = none) (hA2 : ∀ a, A a → A' a) : ER K A' H0 ow O σ H' e := by
  have mv : Mv (AO A O) H (AO A' O) H' := ⟨fun a ha => by
    rcases ha with ha | ha
    · rcases hA a ha with z | z
      · exact .inl (.inl z)
      · exact .inr z
    · exact .inl (.inr ha), fun a o e _ => s a o e⟩
  refine ⟨R.len, h0, R.same.trans s, fun i d h1 h2 => ?_, fun i d h1 h2 => ?_, fun i a h => ⟨(R.fresh i a h).1, ne_none s (R.fresh i a h).2.1, fun z => (hA a z).elim (R.fresh i a h).2.2 (R.fresh i a h).2.1⟩, R.inj, R.pin, R.exq.heap mv fun da fvs e => s _ _ e⟩
  · obtain ⟨v, q, r⟩ := R.vals i d h1 h2
    exact ⟨v, q, Rep.move mv _ _ r⟩
  · obtain ⟨a, q, q2, r⟩ := R.owns i d h1 h2
    refine ⟨a, q, q2, r.move mv ?_⟩
    cases z : H a with
    | none => exact absurd z (R.fresh i a q).2.1
    | some o => exact s a o z
/-- [elt for tg in iter if test]; vs: the block's own names, ts: those that the target sets -/
theorem lc_of {K : Frag} {it : IM} {vs ts : List Nat} {g : GM} {t : TM} {elt : EM} (hx : ow.x = none) (hts : ∀ j ∈ ts, j ∈ vs) {σ : L2.St} {H : Hp} {Q : VK} (h : tF K W ow (lcE it vs g t elt) σ H Q) :
    tLc (tI Gr K W ow it) (tGt K ow ts g) (tT K W0 ow t) (tE K W0 ow elt) vs σ H Q := by
  obtain ⟨A, H0, O, en, R, q⟩ := h
  refine ⟨A, H0, O, en, R, (Out.bind q).good fun xs q1 J H1 s1 itm D hD => ?_⟩
  have q0 := noexc_of (bad' := Nev) q1
  by_cases hsz : xs.length ≤ SZ
  case neg =>
    exact (Out.void (q0.good fun ys q2 => by
      unfold chk at q2
      rw [if_neg hsz] at q2
      exact q2)).elim
  have q2 := q0.good fun ys (q2 : Out (chk xs.length (.lst ys)) _ _) => (by
    unfold chk at q2
    rw [if_pos hsz] at q2
    exact fun a H' n s h => q2 a H' (s1.free n) (s1.trans s) h : ∀ (a : Addr) (H' : Hp), H1 a = none → Same H1 H' → OwnAt K (fun b => AO A O b ∨ b = a) H' a (.lst ys) → Q (.ref a) H')
  have hsl : SZ = sizeLine := rfl
  have R1 := R.to s1
  have hAD : ¬ AO A O D := fun z => R1.there D z hD
  generalize hA' : (fun b => A b ∨ b = D : AS) = A'
  have hA1 : ∀ b, AO A' O b → AO A O b ∨ b = D := fun b hb => by
    subst hA'
    rcases hb with (hb | hb) | hb
    · exact .inl (.inl hb)
    · exact .inr hb
    · exact .inl (.inr hb)
  have hA2 : ∀ b, AO A O b ∨ b = D → AO A' O b := fun b hb => by
    subst hA'
    rcases hb with (hb | hb) | hb
    · exact .inl (.inl hb)
    · exact .inr hb
    · exact .inl (.inr hb)
  refine ⟨fun i m H' => m = xs.length - i ∧ i ≤ xs.length ∧ ∃ acc vs', H' D = some (.lst vs') ∧ Same H1 H' ∧ acc.length ≤ i ∧ Out (compL (compF vs g t elt en) (xs.drop i)) (fun zs => ∀ (a : Addr) (H' : Hp), H1 a = none → Same H1 H' → OwnAt K (fun b => AO A O b ∨ b = a) H' a (.lst (acc ++ zs)) → Q (.ref a) H') Nev ∧ RepL K (AO A' O) H' acc vs', ⟨xs.length, by simp, Nat.zero_le _, [], [], upd_same, new_same hD, Nat.le_refl _, q2, by simp [RepL]⟩, ?_⟩
  rintro i m H' ⟨rfl, hi, acc, vs', hH', s2, hal, hz, hr2⟩
  have im := itm i (AO A' O) H' ⟨fun b hb => (hA1 b hb).elim .inl fun z => by rw [z]; exact .inr hD, s2⟩
  by_cases hlt : i < xs.length
  · right
    obtain ⟨hgo, hy⟩ := im.1 hlt
    have hf := compL_drop hlt hz
    refine ⟨hgo, fun H'' => ∃ acc vs', H'' D = some (.lst vs') ∧ Same H1 H'' ∧ acc.length ≤ i + 1 ∧ Out (compL (compF vs g t elt en) (xs.drop (i + 1))) (fun zs => ∀ (a : Addr) (H' : Hp), H1 a = none → Same H1 H' → OwnAt K (fun b => AO A O b ∨ b = a) H' a (.lst (acc ++ zs)) → Q (.ref a) H') Nev ∧ RepL K (AO A' O) H'' acc vs', fun H'' ⟨a1, a2, h1, h2, h3, h4, h6⟩ => ⟨xs.length - (i + 1), by omega, rfl, by omega, a1, a2, h1, h2, h3, h4, h6⟩, fun x H3 y => ?_⟩
    obtain ⟨s3, d, hd, rd⟩ := hy x H3 y
    have hd' : d = xs[i] := by
      rw [List.getElem?_eq_getElem hlt] at hd
      exact (Option.some.inj hd).symm
    subst hd'
    unfold compF at hf
    cases hg : g xs[i] (wipe en vs) with
    | none => rw [hg] at hf; exact hf.elim
    | some e1 =>
      rw [hg, lift_some, bind_ok] at hf
      have s13 := s2.trans s3
      have hD3 : H3 D ≠ none := by
        rw [s3 _ _ hH']
        exact fun z => nomatch z
      have R3 : ER K A' H0 ow O (L2.wipe σ vs) H3 (wipe en vs) := ((R1.more (A' := A') (H' := H3) (fun b hb => by
        rcases hA1 b (.inl hb) with z | z
        · exact (R1.to s13).there b z
        · rw [z]
          exact hD3) s13 (fun b hb => by
        subst hA'
        rcases hb with hb | hb
        · exact .inl hb
        · rw [hb]
          exact .inr hD) (fun b hb => by
        subst hA'
        exact .inl hb))).wipe vs hx
      refine ⟨A', H0, O, wipe en vs, xs[i], e1, R3, rd, hg, fun σ1 Rσ l1 k1 => ⟨?_, ?_⟩⟩
      · have w1 := wipe_eq (vs := vs) (σ := L2.wipe σ vs) (σ' := σ1) l1 fun j hj => k1 j fun z => hj (hts j z)
        rw [w1]
        exact wipe_eq (L2.wipe_length _ _) fun j hj => L2.wipe_out hj
      · refine ⟨A', H0, O, e1, Rσ, (Out.bind hf).imp (fun bb _ hf => ?_) fun _ _ z => z.elim⟩
        intro H4 s4
        cases bb with
        | false =>
            rw [if_neg (by decide)] at hf ⊢
            have s5 : Same H' H4 := s3.trans s4
            exact ⟨acc, vs', s5 _ _ hH', s2.trans s5, by omega, hf, RepL.move (Mv.same s5) _ _ hr2⟩
        | true =>
              rw [if_pos rfl] at hf ⊢
              refine ⟨A', H0, O, e1, Rσ.to s4, (Out.bind hf).imp (fun y' _ hf => ?_) fun _ _ z => z.elim⟩
              intro v5 H5 s5 r5
              have s6 : Same H' H5 := (s3.trans s4).trans s5
              have a1 := s6 _ _ hH'
              have hmv : Mv (AO A' O) H5 (AO A' O) (upd H5 D (.lst (vs' ++ [v5]))) := ⟨fun b hb => .inl hb, fun b o' e1 hb => by
                rw [upd_ne]
                · exact e1
                · intro z
                  subst z
                  rcases hb with hb | hb
                  · exact hb (hA2 _ (.inr rfl))
                  · rw [a1] at e1
                    cases e1
                    exact hb⟩
              have rall := (RepL.move (Mv.same s6) _ _ hr2).append (RepL.one r5)
              have hlen := hr2.length
              refine ⟨vs', a1, by omega, acc ++ [y'], vs' ++ [v5], upd_same, fun b o' e1 => ?_, by simp; omega, Out.good (show Out (compL _ _) _ _ from hf) fun zs h => by rw [List.append_assoc]; exact h, RepL.move hmv _ _ rall⟩
              rw [upd_ne (ne_of_none e1 hD)]
              exact s6 _ _ (s2 _ _ e1)
  · left
    refine ⟨im.2 (by omega), ?_⟩
    have hi2 : i = xs.length := by omega
    subst hi2
    rw [List.drop_length] at hz
    have hz : ∀ (a : Addr) (H' : Hp), H1 a = none → Same H1 H' → OwnAt K (fun b => AO A O b ∨ b = a) H' a (.lst (acc ++ [])) → Q (.ref a) H' := hz
    rw [List.append_nil] at hz
    exact hz D H' hD s2 ⟨vs', hH', RepL.move (Mv.less fun b hb => hA2 b hb) _ _ hr2⟩
end
end Py
/-! Statements. -/
namespace Py
open PySem L2
section
variable {K : Frag} {A : AS} {H0 : Base} {ow : Ow} {O : OW} {σ : L2.St} {H H' : Hp} {e : Env}
/-- every name gives up what it owns -/
theorem ER.freeze (R : ER K A H0 ow O σ H e) : ER K A ⟨H0.hp, none⟩ ow.off (fun _ => none) σ H e := by
  have mv : Mv (AO A O) H (AO A fun _ => none) H := Mv.less fun b hb => hb.elim .inl fun ⟨_, z⟩ => nomatch z
  refine ⟨R.len, R.a0, R.same, fun i d h1 _ => ?_, fun i d h1 h2 => ?_, fun i a h => (nomatch h), fun i j a h => (nomatch h), fun a h => (nomatch h), fun q hq => ?_⟩
  rotate_right
  · obtain ⟨h1, h2, h3, fvs, h4, h5⟩ := R.exq q hq
    refine ⟨?_, h2, h3, fvs, h4, RepF.move mv _ _ h5⟩
    have hq2 : ow.x = some q := hq
    simp only [Ow.off, hq2, beq_self_eq_true]
  rotate_right
  · simp only [Ow.off] at h2
    cases hq : ow.x with
    | none =>
      rw [hq] at h2
      cases h2
    | some q =>
      rw [hq] at h2
      have hi : i = q.i := by simpa using h2
      subst hi
      exact absurd h1 ((R.exq q hq).no d)
  cases hi : ow i with
  | false =>
    obtain ⟨v, q, r⟩ := R.vals i d h1 hi
    exact ⟨v, q, Rep.move mv _ _ r⟩
  | true =>
    obtain ⟨a, q, q2, r⟩ := R.owns i d h1 hi
    refine ⟨.ref a, q2, ?_⟩
    have na : ¬ AO A (fun _ => none) a := fun z => z.elim (R.fresh i a q).2.2 fun ⟨_, w⟩ => nomatch w
    exact r.rep mv na
/-- a name's own object changes -/
theorem ER.write (R : ER K A H0 ow O σ H e) {i : Nat} {a : Addr} {o : HO} {d d' : D} (hi : ow i = true) (he : e[i]? = some (some d)) (ha : O i = some a) (h : OwnAt K (AO A O) (upd H a o) a d') : ER K A H0 ow O σ (upd H a o) (e.set i (some d')) := by
  obtain ⟨a1, q1, q2, r⟩ := R.owns i d he hi
  rw [ha] at q1
  cases q1
  obtain ⟨u0, hu0, hs0, hx0⟩ := r.obj
  have hst : ∀ u, H a = some u → ¬ still u := fun u hu => by
    rw [hu0] at hu
    cases hu
    exact hs0
  have mv : Mv (AO A O) H (AO A O) (upd H a o) := ⟨fun b hb => .inl hb, fun b u e1 hb => by
    rw [upd_ne]
    · exact e1
    · intro z
      subst z
      rcases hb with hb | hb
      · exact hb (.inr ⟨i, ha⟩)
      · exact hst u e1 hb⟩
  have hne : ∀ {H1 : Hp} {b : Addr}, H1 b ≠ none → (upd H1 a o) b ≠ none := fun {H1 b} h => by
    unfold upd
    split
    · exact fun z => nomatch z
    · exact h
  refine ⟨by simp [R.len], fun b hb => hne (R.a0 b hb), fun b u e1 => ?_, fun j dj h1 h2 => ?_, fun j dj h1 h2 => ?_, fun j b hb => ⟨(R.fresh j b hb).1, hne (R.fresh j b hb).2.1, (R.fresh j b hb).2.2⟩, R.inj, R.pin, R.exq.move mv (fun da fvs e1 => (upd_ne fun z => by
    subst z
    rw [hu0] at e1
    exact hx0 _ (Option.some.inj e1)).trans e1) fun j _ n => ⟨rfl, fun dj => by
      have hij : i ≠ j := fun z => by
        subst z
        exact n _ he
      rw [List.getElem?_set_ne hij]
      exact n dj⟩⟩
  · rw [upd_ne]
    · exact R.same b u e1
    · intro z
      rw [z, (R.fresh i a ha).1] at e1
      cases e1
  · have hj : i ≠ j := fun z => by
      subst z
      rw [hi] at h2
      cases h2
    rw [List.getElem?_set_ne hj] at h1
    obtain ⟨v, q, r⟩ := R.vals j dj h1 h2
    exact ⟨v, q, Rep.move mv _ _ r⟩
  · by_cases hj : i = j
    · subst hj
      have hl := (List.getElem?_eq_some_iff.mp he).1
      rw [List.getElem?_set_self hl] at h1
      cases h1
      exact ⟨a, ha, q2, h⟩
    · rw [List.getElem?_set_ne hj] at h1
      obtain ⟨b, p1, p2, p3⟩ := R.owns j dj h1 h2
      have hba : b ≠ a := fun z => by
        subst z
        exact hj (R.inj i j b ha p1)
      exact ⟨b, p1, p2, p3.move mv (upd_ne hba)⟩
/-- a name gets an object of its own -/
theorem ER.take (R : ER K A H0 ow O σ H e) {i : Nat} {a : Addr} {d : D} (s : Same H H') (hxi : ∀ q, ow.x = some q → q.i ≠ i) (hi : ow i = true) (h0 : 0 < i) (hn : H a = none) (h : OwnAt K (fun b => AO A O b ∨ b = a) H' a d) :
    ER K A H0 ow (fun j => if j = i then some a else O j) (σ.set i (some (.ref a))) H' (e.set i (some d)) ∧ Mv (AO A O) H (AO A fun j => if j = i then some a else O j) H' := by
  have sub : ∀ b, AO A (fun j => if j = i then some a else O j) b → AO A O b ∨ b = a := fun b hb => by
    rcases hb with hb | ⟨j, hb⟩
    · exact .inl (.inl hb)
    · by_cases hj : j = i
      · simp only [hj, if_true, Option.some.injEq] at hb
        exact .inr hb.symm
      · simp only [hj, if_false] at hb
        exact .inl (.inr ⟨j, hb⟩)
  have mv : Mv (AO A O) H (AO A fun j => if j = i then some a else O j) H' := ⟨fun b hb => (sub b hb).elim .inl fun z => by rw [z]; exact .inr hn, fun b o e1 _ => s b o e1⟩
  have mv2 : Mv (fun b => AO A O b ∨ b = a) H' (AO A fun j => if j = i then some a else O j) H' := Mv.less sub
  have ha : H' a ≠ none := by
    obtain ⟨u, hu, _, _⟩ := h.obj
    rw [hu]
    exact fun z => nomatch z
  refine ⟨⟨by simp [R.len], fun b hb => ne_none s (R.a0 b hb), R.same.trans s, fun j dj h1 h2 => ?_, fun j dj h1 h2 => ?_, fun j b hb => ?_, fun j k b hj hk => ?_, fun b hb => ?_, fun q hq => ?_⟩, mv⟩
  rotate_right
  · obtain ⟨z1, z2, z3, fvs, z4, z5⟩ := R.exq q hq
    have hne : i ≠ q.i := fun z => hxi q hq z.symm
    refine ⟨z1, ?_, ?_, fvs, s _ _ z4, RepF.move mv _ _ z5⟩ <;> rw [List.getElem?_set_ne hne]
    · exact z2
    · exact z3
  · have hj : i ≠ j := fun z => by
      subst z
      rw [hi] at h2
      cases h2
    rw [List.getElem?_set_ne hj] at h1
    obtain ⟨v, q, r⟩ := R.vals j dj h1 h2
    exact ⟨v, by rw [List.getElem?_set_ne hj]; exact q, Rep.move mv _ _ r⟩
  · by_cases hj : i = j
    · subst hj
      have hl : i < e.length := by
        have := (List.getElem?_eq_some_iff.mp h1).1
        simpa using this
      rw [List.getElem?_set_self hl] at h1
      cases h1
      exact ⟨a, by simp, List.getElem?_set_self (by rw [R.len]; exact hl), h.move mv2 rfl⟩
    · rw [List.getElem?_set_ne hj] at h1
      obtain ⟨b, p1, p2, p3⟩ := R.owns j dj h1 h2
      have hj' : ¬ j = i := fun z => hj z.symm
      refine ⟨b, by simp only [hj', if_false]; exact p1, by rw [List.getElem?_set_ne hj]; exact p2, p3.move mv ?_⟩
      cases z : H b with
      | none => exact absurd z (R.fresh j b p1).2.1
      | some o => exact s b o z
  · by_cases hj : j = i
    · simp only [hj, if_true, Option.some.injEq] at hb
      subst hb
      refine ⟨?_, ha, fun z => R.a0 a z hn⟩
      cases z : H0.hp a with
      | none => rfl
      | some o =>
        rw [R.same a o z] at hn
        cases hn
    · simp only [hj, if_false] at hb
      exact ⟨(R.fresh j b hb).1, ne_none s (R.fresh j b hb).2.1, (R.fresh j b hb).2.2⟩
  · have old : ∀ l b, O l = some b → b ≠ a := fun l b hl z => by
      rw [z] at hl
      exact (R.fresh l a hl).2.1 hn
    by_cases h1 : j = i
    · by_cases h2 : k = i
      · rw [h1, h2]
      · simp only [h1, if_true, Option.some.injEq] at hj
        simp only [h2, if_false] at hk
        exact absurd hj.symm (old k b hk)
    · by_cases h2 : k = i
      · simp only [h2, if_true, Option.some.injEq] at hk
        simp only [h1, if_false] at hj
        exact absurd hk.symm (old j b hj)
      · simp only [h1, if_false] at hj
        simp only [h2, if_false] at hk
        exact R.inj j k b hj hk
  · have h1 : ¬ 0 = i := fun z => by omega
    simp only [h1, if_false]
    exact R.pin b hb
end
/-- what is given back; fr: an object that is new and its caller's own -/
inductive Rm where
  | val | own | lent | two
def RetOk (fr : Rm) (K : Frag) (A : AS) (H0 : Base) (H' : Hp) (d : D) (v : V) : Prop := match fr with
  | .val => Rep K A H' d v
  | .own => ∃ a, v = .ref a ∧ H0.hp a = none ∧ OwnAt K (fun b => A b ∨ b = a) H' a d
  | .lent => ∃ r l, d = .tup [r, l] ∧ Rep K A H' r v ∧ ∀ a, H0.px = some a → OwnAt K A H' a l
  | .two => ∃ a b c x y, v = .ref a ∧ d = .tup [x, y] ∧ SqT K H' a [.ref b, .ref c] ∧ b ≠ c ∧ H0.hp b = none ∧ H0.hp c = none ∧ OwnAt K (fun z => (A z ∨ z = b) ∨ z = c) H' b x ∧ OwnAt K (fun z => (A z ∨ z = b) ∨ z = c) H' c y
/-- what must hold behind a statement; oN: who owns behind it, oB: who owns at a break, a continue -/
def EndOk3 (fr : Rm) (K : Frag) (A : AS) (H0 : Base) (oN oB : Ow) (O : OW) (H : Hp) (D : Ends) : Fl → Prop
  | .next e' => ∀ O' σ' H', ER K A H0 oN O' σ' H' e' → Mv (AO A O) H (AO A O') H' → D.nx σ' H'
  | .ret d => ∀ v H', Same H0.hp H' → RetOk fr K A H0 H' d v → D.rt v H'
  | .brk e' => ∀ O' σ' H', ER K A H0 oB O' σ' H' e' → Mv (AO A O) H (AO A O') H' → D.bk σ' H'
  | .cnt e' => ∀ O' σ' H', ER K A H0 oB O' σ' H' e' → Mv (AO A O) H (AO A O') H' → D.ct σ' H'
abbrev EndOk (fr : Rm) (K : Frag) (A : AS) (H0 : Base) (ow : Ow) (O : OW) (H : Hp) (D : Ends) : Fl → Prop := EndOk3 fr K A H0 ow ow O H D
theorem EndOk3.to {fr : Rm} {K : Frag} {A : AS} {H0 : Base} {oN oB : Ow} {O O1 : OW} {H H1 : Hp} {D : Ends} (m : Mv (AO A O) H (AO A O1) H1) : ∀ {f : Fl}, EndOk3 fr K A H0 oN oB O H D f → EndOk3 fr K A H0 oN oB O1 H1 D f
  | .next _, h => fun O' σ' H' R n => h O' σ' H' R (m.trans n)
  | .ret _, h => h
  | .brk _, h => fun O' σ' H' R n => h O' σ' H' R (m.trans n)
  | .cnt _, h => fun O' σ' H' R n => h O' σ' H' R (m.trans n)
def badS (K : Frag) (W : WX) (A : AS) (H0 : Base) (c : String) (fs : List (String × D)) : Prop :=
  ∀ σ' da H' fvs, Same H0.hp H' → H' da = some (.xd fvs) → RepF K A H' fs fvs → W (.ref (ca K c)) (some da) σ' H'
theorem badS.e {K : Frag} {W : WX} {A : AS} {H0 : Base} {ow : Ow} {O : OW} {σ : L2.St} {H : Hp} {e : Env} (R : ER K A H0 ow O σ H e) {c : String} {fs : List (String × D)} (h : badS K W A H0 c fs) : badE K W A O σ H c fs := fun da H' fvs s q r =>
  h σ da H' fvs (R.same.trans s) q (RepF.move (Mv.less fun b => .inl) _ _ r)
def tS3 (fr : Rm) (K : Frag) (W : WX) (ow oN oB : Ow) (m : SM) : TS := fun D σ H => ∃ A H0 O e, ER K A H0 ow O σ H e ∧ Out (m e) (EndOk3 fr K A H0 oN oB O H D) (badS K W A H0)
abbrev tS (fr : Rm) (K : Frag) (W : WX) (ow : Ow) (m : SM) : TS := tS3 fr K W ow ow ow m
section
variable {fr : Rm} {X : Cx} {W : WX} {ow : Ow} {a b c e : Expr} {es : List Expr} {m ma mb mc : EM} {st : Stmt} {rest body orelse : List Stmt} {u v : SM} {t : TM} {pos : Pos}
theorem Out.se {α : Type} {K : Frag} {W : WX} {A : AS} {H0 : Base} {ow : Ow} {O : OW} {σ : L2.St} {H : Hp} {e : Env} (R : ER K A H0 ow O σ H e) {r : Res α} {good : α → Prop} (h : Out r good (badS K W A H0)) : Out r good (badE K W A O σ H) := h.imp (fun _ _ x => x) fun _ _ x => x.e R
/-! ### blocks -/
theorem ss_nil : PSs X [] (tS fr X.K W ow skip) := PSs.of pss_nil fun D σ H ⟨A, H0, O, en, R, q⟩ => q O σ H R Mv.refl
theorem ss_one (h : PS X st (tS fr X.K W ow u)) : PSs X [st] (tS fr X.K W ow u) := pss_one h
theorem ss_cons (h : PS X st (tS fr X.K W ow u)) (k : PSs X rest (tS fr X.K W ow v)) : PSs X (st :: rest) (tS fr X.K W ow (seq u v)) :=
  PSs.of (pss_cons h k) fun D σ H ⟨A, H0, O, en, R, q⟩ => ⟨A, H0, O, en, R, (Out.bind q).good fun f q1 => by
    cases f with
    | next e' => exact fun O' σ' H' R' mv => ⟨A, H0, O', e', R', q1.good fun f q2 => q2.to mv⟩
    | ret d => exact q1
    | brk e' => exact q1
    | cnt e' => exact q1⟩
/-! ### assignments -/
theorem s_set {i : Nat} (h : PS X st (tAsg (tE X.K W ow m) (gName i))) (hi : ow i = false) : PS X st (tS fr X.K W ow (asg (gnm i) m)) :=
  PS.of h fun D σ H ⟨A, H0, O, en, R, q⟩ => ⟨A, H0, O, en, R, ((Out.bind q).se R).good fun d q1 v H1 s1 r1 => q1 O _ H1 ((R.to s1).set hi r1) (Mv.same s1)⟩
theorem s_gen {ts : List Nat} {g : GM} (h : PS X st (tAsg (tE X.K W ow m) (tGt X.K ow ts g))) : PS X st (tS fr X.K W ow (asg g m)) :=
  PS.of h fun D σ H ⟨A, H0, O, en, R, q⟩ => ⟨A, H0, O, en, R, ((Out.bind q).se R).good fun d q1 v H1 s1 r1 => by
    cases hg : g d en with
    | none =>
      rw [hg] at q1
      exact q1.elim
    | some e' =>
      rw [hg] at q1
      exact ⟨A, H0, O, en, d, e', R.to s1, r1, hg, fun σ' R' _ _ => q1 O σ' H1 R' (Mv.same s1)⟩⟩
/-- x += e and its like, x a clean name -/
theorem s_aug {i : Nat} {f : D → D → Res D} {te : TE} {tp : TIp} (h : PS X st (tAug i te tp)) (hte : te = tW X.K W ow m) (hp : ∀ x y H Q, r2 X.K f x y H Q → tp x y H Q) (hf : NoEx2 f) (hi : ow i = false) : PS X st (tS fr X.K W ow (aug i f m)) := by
  subst hte
  refine PS.of h fun D σ H ⟨A, H0, O, en, R, q⟩ => ?_
  have q0 := Out.bind q
  unfold var at q0
  split at q0
  · rename_i d0 hd0
    obtain ⟨v0, e0, r0⟩ := R.vals i d0 hd0 hi
    refine ⟨v0, e0, A, H0, O, en, R, ((Out.bind q0).se R).good fun d1 q1 v1 H1 s1 r1 => hp _ _ _ _ ?_⟩
    have R1 := R.to s1
    cases e : f d0 d1 with
    | exc _ _ => exact (hf.exc e).elim
    | pick _ _ => exact (hf.pick e).elim
    | stuck =>
      rw [e] at q1
      exact q1.elim
    | ok d =>
      rw [e] at q1
      exact ⟨_, d0, d1, d, RepW.of (Rep.move (Mv.same s1) _ _ r0), r1, R1.there, e, fun v2 H2 s2 r2 => q1 O _ H2 ((R1.to s2).set hi r2) (Mv.same (s1.trans s2))⟩
  · exact q0.elim
theorem s_ret (h : PE X a (tE X.K W ow.off m)) : PS X (.Return (some a) pos) (tS .val X.K W ow (ret m)) :=
  PS.of (ps_ret h) fun D σ H ⟨A, H0, O, en, R, q⟩ => ⟨A, _, _, en, R.freeze, ((Out.bind (show Out (ret m en) _ (badS X.K W A ⟨H0.hp, none⟩) from q)).se R.freeze).good fun d q1 v H1 s1 r1 =>
    q1 v H1 (R.same.trans s1) (Rep.move (Mv.less fun b => .inl) _ _ r1)⟩
theorem s_cnt : PS X (.Continue pos) (tS fr X.K W ow cnt) := PS.of ps_continue fun D σ H ⟨A, H0, O, en, R, q⟩ => q O σ H R Mv.refl
theorem s_if (hc : PT X a (tT X.K W ow t)) (hb : PSs X body (tS fr X.K W ow u)) (ho : PSs X orelse (tS fr X.K W ow v)) : PS X (.If a body orelse pos) (tS fr X.K W ow (ite t u v)) :=
  PS.of (ps_if hc hb ho) fun D σ H ⟨A, H0, O, en, R, q⟩ => ⟨A, H0, O, en, R, ((Out.bind q).se R).good fun k q1 H1 s1 => by
    cases k with
    | true =>
      rw [if_pos rfl] at q1 ⊢
      exact ⟨A, H0, O, en, R.to s1, q1.good fun f q2 => q2.to (Mv.same s1)⟩
    | false =>
      rw [if_neg (by decide)] at q1 ⊢
      exact ⟨A, H0, O, en, R.to s1, q1.good fun f q2 => q2.to (Mv.same s1)⟩⟩
/-! ### loops -/
theorem for_of {it : IM} {ts : List Nat} {g : GM} {D : Ends} {σ : L2.St} {H : Hp} (h : tS fr X.K W ow (for_ it g u) D σ H) : tFor (tI Mv X.K W ow it) (tGt X.K ow ts g) (tS fr X.K W ow u) D σ H := by
  obtain ⟨A, H0, O, en, R, q⟩ := h
  exact ⟨A, H0, O, en, R, ((Out.bind q).se R).good fun xs q1 J H1 s1 itm => by
    refine ⟨fun i m σ' H' => m = xs.length - i ∧ i ≤ xs.length ∧ ∃ O' e', ER X.K A H0 ow O' σ' H' e' ∧ Mv (AO A O) H1 (AO A O') H' ∧ Out (forL (forB g u) (xs.drop i) e') (EndOk fr X.K A H0 ow O H1 D) (badS X.K W A H0),
      ⟨xs.length, by simp, Nat.zero_le _, O, en, R.to s1, Mv.refl, q1.good fun f q2 => q2.to (Mv.same s1)⟩, ?_⟩
    rintro i m σ' H' ⟨rfl, hi, O', e', R', mv, q2⟩
    have im := itm i (AO A O') H' mv
    by_cases hlt : i < xs.length
    · right
      obtain ⟨hgo, hy⟩ := im.1 hlt
      refine ⟨hgo, fun σ' H' => ∃ O' e', ER X.K A H0 ow O' σ' H' e' ∧ Mv (AO A O) H1 (AO A O') H' ∧ Out (forL (forB g u) (xs.drop (i + 1)) e') (EndOk fr X.K A H0 ow O H1 D) (badS X.K W A H0), fun σ2 H2 ⟨a1, a2, a3⟩ => ⟨xs.length - (i + 1), by omega, rfl, by omega, a1, a2, a3⟩, fun x H3 y => ?_⟩
      obtain ⟨s3, d, hd, rd⟩ := hy x H3 y
      have hd' : d = xs[i] := by
        rw [List.getElem?_eq_getElem hlt] at hd
        exact (Option.some.inj hd).symm
      subst hd'
      rw [List.drop_eq_getElem_cons hlt] at q2
      simp only [forL, forB] at q2
      cases hg' : g xs[i] e' with
      | none =>
        rw [hg'] at q2
        exact q2.elim
      | some e2 =>
        rw [hg', lift_some, bind_ok] at q2
        have mv3 : Mv (AO A O) H1 (AO A O') H3 := mv.trans (Mv.same s3)
        refine ⟨A, H0, O', e', xs[i], e2, R'.to s3, rd, hg', fun σ2 R2 _ _ => ⟨A, H0, O', e2, R2, (Out.bind q2).good fun f q2 => ?_⟩⟩
        · cases f with
          | next e3 => exact fun O3 σ3 H4 R3 m3 => ⟨O3, e3, R3, mv3.trans m3, q2⟩
          | cnt e3 => exact fun O3 σ3 H4 R3 m3 => ⟨O3, e3, R3, mv3.trans m3, q2⟩
          | brk e3 =>
            have q3 : EndOk fr X.K A H0 ow O H1 D (.next e3) := q2
            exact fun O3 σ3 H4 R3 m3 => q3 O3 σ3 H4 R3 (mv3.trans m3)
          | ret d => exact q2
    · left
      have hi2 : i = xs.length := by omega
      subst hi2
      rw [List.drop_length] at q2
      have q3 : EndOk fr X.K A H0 ow O H1 D (.next e') := q2
      exact ⟨im.2 rfl, q3 O' σ' H' R' mv⟩⟩
theorem s_for {tg iter : Expr} {it : IM} {ts : List Nat} {g : GM} (hp : PassesOwn (model X.prog X.w) X.A X.env X.xe) (hc : X.calm = true) (hi : PI X tg iter (tI Mv X.K W ow it)) (hg : PG X tg (tGt X.K ow ts g)) (hb : PSs X body (tS fr X.K W ow u))
    (hs : ∀ x, foldedSetIterable iter X.env x = pure x := by intro _; rfl) : PS X (.For tg iter body [] pos) (tS fr X.K W ow (for_ it g u)) :=
  PS.of (ps_for hp hc hi hg hb hs) fun D σ H h => for_of h
theorem s_while (hp : PassesOwn (model X.prog X.w) X.A X.env X.xe) (hc : PT X a (tT X.K W ow t)) (hb : PSs X body (tS fr X.K W ow u)) : PS X (.While a body [] pos) (tS fr X.K W ow (while_ t u)) :=
  PS.of (ps_while hp hc hb) fun D σ H ⟨A, H0, O, en, R, q⟩ => by
    refine ⟨fun k σ' H' => ∃ O' e', ER X.K A H0 ow O' σ' H' e' ∧ Mv (AO A O) H (AO A O') H' ∧ Out (whileL t u k e') (EndOk fr X.K A H0 ow O H D) (badS X.K W A H0), ⟨FUEL, O, en, R, Mv.refl, q⟩, ?_⟩
    rintro k σ' H' ⟨O', e', R', mv, q1⟩
    cases k with
    | zero => exact q1.elim
    | succ k =>
      refine ⟨A, H0, O', e', R', ((Out.bind q1).se R').good fun bb q2 H2 s2 => ?_⟩
      have R2 := R'.to s2
      have mv2 := mv.trans (Mv.same (A := AO A O') s2)
      cases bb with
      | false =>
        rw [if_neg (by decide)] at q2
        dsimp only
        rw [if_neg (by decide)]
        have q3 : EndOk fr X.K A H0 ow O H D (.next e') := q2
        exact q3 O' σ' H2 R2 mv2
      | true =>
        rw [if_pos rfl] at q2
        dsimp only
        rw [if_pos rfl]
        refine ⟨fun σ' H' => ∃ O' e', ER X.K A H0 ow O' σ' H' e' ∧ Mv (AO A O) H (AO A O') H' ∧ Out (whileL t u k e') (EndOk fr X.K A H0 ow O H D) (badS X.K W A H0), fun σ3 H3 a => ⟨k, Nat.lt_succ_self _, a⟩, A, H0, O', e', R2, (Out.bind q2).good fun f q2 => ?_⟩
        · cases f with
          | next e3 => exact fun O3 σ3 H4 R3 m3 => ⟨O3, e3, R3, mv2.trans m3, q2⟩
          | cnt e3 => exact fun O3 σ3 H4 R3 m3 => ⟨O3, e3, R3, mv2.trans m3, q2⟩
          | brk e3 =>
            have q3 : EndOk fr X.K A H0 ow O H D (.next e3) := q2
            exact fun O3 σ3 H4 R3 m3 => q3 O3 σ3 H4 R3 (mv2.trans m3)
          | ret d => exact q2
/-! ### a name's own list, object -/
theorem var_ok {α : Type} {i : Nat} {en : Env} {k : D → Res α} {good : α → Prop} {bad : String → List (String × D) → Prop} (h : Out (var i en >>= k) good bad) : ∃ d, en[i]? = some (some d) ∧ Out (k d) good bad := by
  unfold var at h
  split at h
  · rename_i d hd
    exact ⟨d, hd, h⟩
  · exact h.elim
theorem sqL {K : Frag} {H : Hp} {a : Addr} {vs : List V} (h : H a = some (.lst vs)) : L2.tyV K "list" (.ref a) H := .inl ⟨rfl, vs, .inl (.inl h)⟩
theorem own_mv {K : Frag} {A : AS} {H0 : Base} {ow : Ow} {O : OW} {σ : L2.St} {H : Hp} {en : Env} (R : ER K A H0 ow O σ H en) {i : Nat} {a : Addr} (p1 : O i = some a) {u o : HO} (e : H a = some u) (hs : ¬ still u) : Mv (AO A O) H (AO A O) (upd H a o) :=
  ⟨fun b hb => .inl hb, fun b o e3 hb => by
    rw [upd_ne]
    · exact e3
    · intro z
      subst z
      rcases hb with hb | hb
      · exact hb (.inr ⟨i, p1⟩)
      · rw [e] at e3
        cases e3
        exact hs hb⟩
/-- x.append(e) -/
theorem s_app {i : Nat} (h : PS X st (tDrop (tBM X.K "list" rAppend (tVar i) (tCons (tE X.K W ow m) tNil)))) (hi : ow i = true) : PS X st (tS fr X.K W ow (app i m)) :=
  PS.of h fun D σ H ⟨A, H0, O, en, R, q⟩ => by
    obtain ⟨l, hl, q1⟩ := var_ok q
    obtain ⟨a, p1, p2, p3⟩ := R.owns i l hl hi
    cases l with
    | lst ds =>
      obtain ⟨vs, e1, r1⟩ := p3
      refine ⟨.ref a, p2, sqL e1, A, H0, O, en, R, ((Out.bind q1).se R).good fun d q2 v H1 s1 r2 => ?_⟩
      split at q2
      · rename_i hz
        have e2 := s1 _ _ e1
        refine ⟨a, vs, v, rfl, rfl, e2, by rw [← r1.length]; exact hz, ?_⟩
        have R1 := R.to s1
        have mv := own_mv R1 p1 (o := .lst (vs ++ [v])) e2 fun z => z
        have R2 := R1.write (o := .lst (vs ++ [v])) (d' := .lst (ds ++ [d])) hi hl p1 ⟨_, upd_same, RepL.move mv _ _ ((RepL.move (Mv.same s1) _ _ r1).append (RepL.one r2))⟩
        exact q2 O σ _ R2 ((Mv.same s1).trans mv)
      · exact q2.elim
    | _ => exact q1.elim
/-- x[j] = e -/
theorem s_setL {i : Nat} {mj : EM} (h : PS X st (tAsg (tE X.K W ow m) (gSub (tVar i) (tE X.K W ow mj) (rSetX X.K)))) (hi : ow i = true) : PS X st (tS fr X.K W ow (setL i mj m)) :=
  PS.of h fun D σ H ⟨A, H0, O, en, R, q⟩ => by
    obtain ⟨l, hl, q1⟩ := var_ok q
    obtain ⟨a, p1, p2, p3⟩ := R.owns i l hl hi
    cases l with
    | lst ds =>
      obtain ⟨vs, e1, r1⟩ := p3
      refine ⟨A, H0, O, en, R, ((Out.bind q1).se R).good fun d q2 v H1 s1 r2 => ⟨.ref a, p2, A, H0, O, en, R.to s1, ((Out.bind q2).se (R.to s1)).good fun k q3 w H2 s2 r3 => ?_⟩⟩
      cases k with
      | int z =>
        simp only at q3
        split at q3
        · rename_i n hn
          have s12 := s1.trans s2
          have e2 := s12 _ _ e1
          have r3' : w = .int z := r3
          subst r3'
          refine .inl ⟨a, vs, z, n, rfl, rfl, e2, by rw [← r1.length]; exact hn, ?_⟩
          have R2 := R.to s12
          have mv := own_mv R2 p1 (o := .lst (vs.set n v)) e2 fun z => z
          have R3 := R2.write (o := .lst (vs.set n v)) (d' := .lst (ds.set n d)) hi hl p1 ⟨_, upd_same, RepL.move mv _ _ (RepL.set (Rep.move (Mv.same s2) _ _ r2) n (RepL.move (Mv.same s12) _ _ r1))⟩
          exact q3 O σ _ R3 ((Mv.same s12).trans mv)
        · exact q3.elim
      | _ => exact q3.elim
    | dic t kvs =>
      refine ⟨A, H0, O, en, R, ((Out.bind q1).se R).good fun d q2 v H1 s1 r2 => ⟨.ref a, p2, A, H0, O, en, R.to s1, ((Out.bind q2).se (R.to s1)).good fun k q3 w H2 s2 r3 => ?_⟩⟩
      split at q3
      · rename_i hk
        rw [Bool.and_eq_true, decide_eq_true_eq] at hk
        have s12 := s1.trans s2
        have R2 := R.to s12
        obtain ⟨a', p1', _, p3'⟩ := R2.owns i _ hl hi
        rw [p1] at p1'
        cases p1'
        refine .inr ⟨AO A O, t, kvs, k, d, a, rfl, .inr ⟨i, p1⟩, p3', r3, Rep.move (Mv.same s2) _ _ r2, hk.1, hk.2, fun ob g => ?_⟩
        obtain ⟨u0, hu0, hs0, _⟩ := OwnAt.obj (d := .dic t kvs) p3'
        have mv := own_mv R2 p1 (o := ob) hu0 hs0
        have R3 := R2.write (o := ob) (d' := .dic t (putD k d kvs)) hi hl p1 g
        exact q3 O σ _ R3 ((Mv.same s12).trans mv)
      · exact q3.elim
    | _ => exact q1.elim
/-- self.f = e -/
theorem s_setF {i : Nat} {cs : List String} {f : String} (F : ∀ c ∈ cs, Cls X.K (ca X.K c) ∧ NoAttr X.K (ca X.K c) (Str.ofString f)) (h : PS X st (sFld X.K (tVar i) (tE X.K W ow m) (Str.ofString f))) (hi : ow i = true) : PS X st (tS fr X.K W ow (setF i cs f m)) :=
  PS.of h fun D σ H ⟨A, H0, O, en, R, q⟩ => by
    obtain ⟨l, hl, q1⟩ := var_ok q
    obtain ⟨a, p1, p2, p3⟩ := R.owns i l hl hi
    cases l with
    | ins c fs =>
      obtain ⟨dx, fvs, e1, r1⟩ := p3
      simp only at q1
      split at q1
      · rename_i hz
        obtain ⟨f1, f2⟩ := F c (by simpa using hz.1)
        refine ⟨A, H0, O, en, R, ((Out.bind q1).se R).good fun d q2 v H1 s1 r2 => ⟨.ref a, p2, a, _, dx, fvs, rfl, s1 _ _ e1, f1, f2, by rw [← r1.length]; exact hz.2, ?_⟩⟩
        have R1 := R.to s1
        have mv := own_mv R1 p1 (o := .ins (ca X.K c) dx (L2.putF (Str.ofString f) v fvs)) (s1 _ _ e1) fun z => z
        have R2 := R1.write (o := .ins (ca X.K c) dx (L2.putF (Str.ofString f) v fvs)) (d' := .ins c (putF f d fs)) hi hl p1 ⟨dx, _, upd_same, RepF.move mv _ _ (RepF.put r2 (RepF.move (Mv.same s1) _ _ r1))⟩
        exact q2 O σ _ R2 ((Mv.same s1).trans mv)
      · exact q1.elim
    | _ => exact q1.elim
end
end Py
/-! Calls, defs, classes. -/
namespace Py
open PySem L2
theorem takes0N {X : Cx} : L2N.Takes X (fun _ _ _ _ => False) := fun u s' x => by
  obtain ⟨a, B, sI, pins, σ, H, cls, d, x1, x2, x3, x4, x5, x6, x7, x8, z⟩ := x
  exact z.elim
theorem passLN {X : Cx} : Passes (L2N.CX X.prog X.w) X E0 := fun pins σ H s e s' I h => by
  obtain ⟨a, B, H', cls, d, x1, x2, x3, x4, x5, x6, x7, z⟩ := h
  exact z.elim
/-- where one stands: k calls deep there is room -/
structure Ctx (X : Cx) (W : WX) (k : Nat) : Prop where
  calm : X.calm = true
  tk : L2N.Takes X W
  po : PassesOwn (model X.prog X.w) X.A X.env X.xe
  hr : Room k X.A
  nd : X.N.Nodup
theorem Ctx.blk {X : Cx} {W : WX} {k : Nat} (c : Ctx X W k) (s : Shared) (H : Hp) (scope : Scope) (cenv : PySem.Env) (fp : List Addr) : Ctx (X.blk s H scope cenv fp) W0 k := ⟨c.calm, takes0N, PassesOwn.never, c.hr, c.nd⟩
/-- what a def asks of its number of arguments -/
structure Ar (n : Nat) (fm : List D → Res D) : Prop where
  st : ∀ ds, ds.length ≠ n → fm ds = .stuck
theorem Ar.len {n : Nat} {fm : List D → Res D} {ds : List D} {good : D → Prop} {bad : String → List (String × D) → Prop} (h : Ar n fm) (q : Out (fm ds) good bad) : ds.length = n := by
  by_cases hl : ds.length = n
  · exact hl
  · rw [h.st ds hl] at q
    exact q.elim
theorem ar_fn {p n : Nat} {body : SM} : Ar p (fn p n body) := ⟨fun ds h => if_neg h⟩
/-- a def that computes m of its arguments -/
def spM (K : Frag) (p : Nat) (m : List D → Res D) : Sp := fun vs H Q E => ∃ A ds, RepL K A H ds vs ∧ ds.length = p ∧ (∀ a, A a → H a ≠ none) ∧
  Out (m ds) (fun d => ∀ v H', Same H H' → Rep K A H' d v → Q v H') (fun c fs => ∀ da H' fvs, Same H H' → H' da = some (.xd fvs) → RepF K A H' fs fvs → E (.ref (ca K c)) (some da) H')
/-- an __init__ that makes m of the arguments behind self -/
def spI (K : Frag) (p : Nat) (cls : String) (m : List D → Res D) : Sp := fun vs H Q E => ∃ A x dx H1 ds ws, vs = .ref x :: ws ∧ H = upd (upd H1 dx (.own x)) x (.ins (ca K cls) dx []) ∧ H1 x = none ∧ H1 dx = none ∧ dx ≠ x ∧ RepL K A H1 ds ws ∧ ds.length + 1 = p ∧ (∀ a, A a → H1 a ≠ none) ∧
  Out (m ds) (fun d => ∀ H', Same H1 H' → Rep K A H' d (.ref x) → Q .non H') (fun c fs => ∀ da H' fvs, Same H1 H' → H' da = some (.xd fvs) → RepF K A H' fs fvs → E (.ref (ca K c)) (some da) H')
section
variable {X : Cx} {W : WX} {ow : Ow} {a b c e : Expr} {es : List Expr} {m ma mb mc : EM} {am : AM} {pos p : Pos} {k j n : Nat} {f C : Addr} {fd : FuncData} {ps : List Str} {x : Str} {fm : List D → Res D}
theorem call_of {E : St → XK} (hE : ∀ σ cls d H, W cls d σ H → E σ cls d H) {σ : L2.St} {H : Hp} {Q : VK} (h : tE X.K W ow (call fm am) σ H Q) (hn : Ar n fm) : tCallSD (spM X.K n fm) [] E (aE X.K W ow am) σ H Q := by
  obtain ⟨A, H0, O, en, R, q⟩ := h
  refine ⟨A, H0, O, en, R, (Out.bind q).good fun ds q1 vs H1 s1 r1 => ?_⟩
  dsimp only
  rw [List.append_nil]
  exact ⟨AO A O, ds, paired_rep r1, hn.len q1, (R.to s1).there, q1.imp (fun d _ k v H2 s2 r2 => k v H2 (s1.trans s2) r2) fun c fs z da H2 fvs s2 q2 r2 => hE _ _ _ _ (z da H2 fvs (s1.trans s2) q2 r2)⟩
theorem x_call (T : Ctx X W j) (F : FnOk X.prog X.w X.K X.mg X.base (L2N.CX X.prog X.w) k f fd ps (spM X.K n fm)) (hn : Ar n fm) (hk : k ≤ j) (hg : Gl X x) (hm : X.mg x = some (.ref f)) (hkp : PySem.W.keepIn X.K (.ref f) = true) (hb : Binds X.K fd ps [])
    (ha : PA X (e :: es) (aE X.K W ow am)) (hdb : (x == ("__debug__" : Str)) = false := by decide) (he : starEach (e :: es) X.env = (false, eval e X.env) :: starEach es X.env := by rfl) (hpl : (backTo pos (starEach es X.env)).any (·.1) = false := by rfl) :
    PE X (.Call (.Name x p) (e :: es) [] pos) (tE X.K W ow (call fm am)) :=
  PE.of (pe_callSD (E := WE W) F (T.hr.mono hk) hg hm hkp hb .nil (fun σ => L2N.passAt T.tk σ) ha hdb he hpl) fun _ _ _ h => call_of (fun _ _ _ _ z => z) h hn
/-- C(..) of an own class: what it may let out, at the slots that stand now -/
def tMk (C : Addr) (sp : Sp) (E : St → XK) (t : TA) : TE := fun σ H Q => t σ H fun vs H1 => ∀ y dy, H1 y = none → H1 dy = none → dy ≠ y → sp (.ref y :: vs) (upd (upd H1 dy (.own y)) y (.ins C dy [])) (fun v H2 => v = .non ∧ Q (.ref y) H2) (E σ)
theorem mk_run {CX : CXT} {E : XK} {sp : Sp} {pins : List (Addr × Obj)} {σ : St} {H : Hp} {s : Shared} {Q : VK} {us : List Value} {vs : List V} (M : Mk X.K C f) (F : FnOk X.prog X.w X.K X.mg X.base CX k f fd ps sp) (hr : Room (k + 1) X.A) (hb : Binds X.K fd ps [])
    (hx : PassesAt CX X σ E) (I : Inv X pins σ H s) (rv : Vals vs us)
    (h : ∀ y dy, H y = none → H dy = none → dy ≠ y → sp (.ref y :: vs) (upd (upd H dy (.own y)) y (.ins C dy [])) (fun v H2 => v = .non ∧ Q (.ref y) H2) E) : wpAny (model X.prog X.w) X.A (PySem.call (.ref C) us) (EP X pins σ Q) X.xe s := by
  have e0 := I.hok.fresh (Nat.le_refl s.heap.objs.size)
  have e1 := I.hok.fresh (Nat.le_succ s.heap.objs.size)
  have q := h _ _ e1 e0 (Nat.ne_of_lt (Nat.lt_succ_self _))
  have J := Inv.made (C := C) I
  have rw' : Vals (V.ref (s.heap.objs.size + 1) :: vs) (Value.ref (s.heap.objs.size + 1) :: us) := .cons rfl rv
  have hl : (Value.ref (s.heap.objs.size + 1) :: us).length = ps.length := rw'.length.symm.trans (F.len _ _ _ _ q)
  have b := hb _ (Value.ref (s.heap.objs.size + 1) :: us) J.kIn (by rw [List.append_nil]; exact hl)
  rw [List.append_nil] at b
  refine wpAny_call (make_map (f := f) I.kIn M.makes M.init (beq_iff_eq.mp M.fn) (codeAny_mono (F.run _ X.stack _ _ ⟨Value.ref (s.heap.objs.size + 1) :: us, []⟩ _ _ _ E (hr.make C us []) (J.env0.make C us []) b rw' q) ?_))
  rintro (u | fl) s' z
  · exact hx pins _ _ u s' J z
  · cases fl with
    | ret u =>
      obtain ⟨v, H', I3, r3, rfl, q3⟩ := J.after z
      exact ⟨r3, V.ref (s.heap.objs.size + 1), H', I3, rfl, q3⟩
    | next => exact False.elim z
    | brk => exact False.elim z
    | cont => exact False.elim z
theorem mk_pe {CX : CXT} {E : St → XK} {sp : Sp} {t : TA} (M : Mk X.K C f) (F : FnOk X.prog X.w X.K X.mg X.base CX k f fd ps sp) (hr : Room (k + 1) X.A) (hg : Gl X x) (hm : X.mg x = some (.ref C)) (hb : Binds X.K fd ps []) (hx : ∀ σ, PassesAt CX X σ (E σ))
    (ha : PA X (e :: es) t) (hdb : (x == ("__debug__" : Str)) = false := by decide) (he : starEach (e :: es) X.env = (false, eval e X.env) :: starEach es X.env := by rfl) (hpl : (backTo pos (starEach es X.env)).any (·.1) = false := by rfl) :
    PE X (.Call (.Name x p) (e :: es) [] pos) (tMk C sp E t) :=
  ⟨fun pins s σ H Q I h => wpAny_Call_Name_kw (ld_glob I hg hm (PySem.W.callWith_K (h₀ := X.base) I.ok.mod.kin M.kp (thn (ha.run pos pins s σ H _ I h) fun us s1 ⟨vs, H1, I1, r, q⟩ => ⟨I1.kIn, mk_run M F hr hb (hx σ) I1 r q⟩) he hpl) hdb)⟩
theorem x_make {cls : String} (T : Ctx X W j) (M : Mk X.K (ca X.K cls) f) (F : FnOk X.prog X.w X.K X.mg X.base (L2N.CX X.prog X.w) k f fd ps (spI X.K n cls fm)) (hn : ∀ ds, ds.length + 1 ≠ n → fm ds = .stuck)
    (hk : k + 1 ≤ j) (hg : Gl X x) (hm : X.mg x = some (.ref (ca X.K cls))) (hb : Binds X.K fd ps [])
    (ha : PA X (e :: es) (aE X.K W ow am)) (hdb : (x == ("__debug__" : Str)) = false := by decide) (he : starEach (e :: es) X.env = (false, eval e X.env) :: starEach es X.env := by rfl) (hpl : (backTo pos (starEach es X.env)).any (·.1) = false := by rfl) :
    PE X (.Call (.Name x p) (e :: es) [] pos) (tE X.K W ow (call fm am)) :=
  PE.of (mk_pe (E := WE W) M F (T.hr.mono hk) hg hm hb (fun σ => L2N.passAt T.tk σ) ha hdb he hpl) fun σ H Q ⟨A, H0, O, en, R, q⟩ => by
    refine ⟨A, H0, O, en, R, (Out.bind q).good fun ds q1 vs H1 s1 r1 y dx hy hdx hne => ?_⟩
    have sm : Same H1 (upd (upd H1 dx (.own y)) y (.ins (ca X.K cls) dx [])) := fun b o e => by
      rw [upd_ne (ne_of_none e hy), upd_ne (ne_of_none e hdx)]
      exact e
    refine ⟨AO A O, y, dx, H1, ds, vs, rfl, rfl, hy, hdx, hne, paired_rep r1, ?_, (R.to s1).there, ?_⟩
    · by_cases hl : ds.length + 1 = n
      · exact hl
      · rw [hn ds hl] at q1
        exact q1.elim
    · exact q1.imp (fun d _ k H2 s2 r2 => ⟨rfl, k _ H2 (s1.trans s2) r2⟩) fun c fs z da H2 fvs s2 q2 r2 => z da H2 fvs (s1.trans s2) q2 r2
end
/-! ### defs -/
section
variable {P : Program} {w : World} {K : Frag} {mg : Str → Option Value} {base : Heap} {name qual : Str} {params : Arguments} {body : List Stmt} {scope : Scope} {dvs : List V} {kws : List (Str × V)} {f : Addr} {fd : FuncData} {N ps : List Str} {k : Nat} {ow oN oB : Ow} {m : SM}
theorem start_get {N : List Str} {vs : List V} {i : Nat} {v : V} (h : vs[i]? = some v) : (L2.start N vs)[i]? = some (some v) := by
  unfold L2.start
  have hi := (List.getElem?_eq_some_iff.mp h).1
  rw [List.getElem?_append_left (by simpa using hi), List.getElem?_map, h]
  rfl
abbrev WD (E : XK) : WX := fun c d _ H => E c d H
/-- a def's start -/
theorem spM_start {E : XK} {vs : List V} {H : Hp} {Q : VK} (hpre : ps.length ≤ N.length) (hx : ow.x = none) (hp : ∀ i, i < ps.length → ow i = false) (h : spM K ps.length (fn ps.length N.length m) vs H Q E) :
    tS3 .val K (WD E) ow oN oB m { nx := fun _ H' => Q .non H', rt := Q } (L2.start N vs) H := by
  obtain ⟨AV, ds, r, hl, ha, q⟩ := h
  refine ⟨AV, ⟨H, none⟩, fun _ => none, ds.map some ++ List.replicate (N.length - ps.length) none, ?_, ?_⟩
  · have hlv := r.length
    have hN : ps.length ≤ N.length := hpre
    refine ⟨?_, ha, Same.refl H, fun i d h1 h2 => ?_, fun i d h1 h2 => ?_, fun i a h => (nomatch h), fun i j a h => (nomatch h), fun a h => (nomatch h), XFact.none hx⟩
    · unfold L2.start
      simp only [List.length_append, List.length_map, List.length_replicate]
      omega
    · by_cases hi : i < ds.length
      · rw [List.getElem?_append_left (by simpa using hi), List.getElem?_map, List.getElem?_eq_getElem hi] at h1
        simp only [Option.map_some, Option.some.injEq] at h1
        subst h1
        obtain ⟨v, hv, rv⟩ := r.get (List.getElem?_eq_getElem hi)
        exact ⟨v, start_get hv, Rep.move (Mv.less fun b hb => hb.elim id fun ⟨_, z⟩ => nomatch z) _ _ rv⟩
      · rw [List.getElem?_append_right (by simpa using hi)] at h1
        rw [List.getElem?_replicate] at h1
        split at h1 <;> cases h1
    · by_cases hi : i < ds.length
      · rw [hp i (by omega)] at h2
        cases h2
      · rw [List.getElem?_append_right (by simpa using hi)] at h1
        rw [List.getElem?_replicate] at h1
        split at h1 <;> cases h1
  · unfold fn at q
    rw [if_pos hl] at q
    refine (Out.bind q).imp (fun fl _ q => ?_) fun c fs q => ?_
    · cases fl with
      | next e' => exact fun O' σ' H' R' _ => q .non H' R'.same rfl
      | ret d => exact fun v H' s' r' => q v H' s' r'
      | brk e' => exact q.elim
      | cnt e' => exact q.elim
    · exact fun σ' da H' fvs s' q' r' => q da H' fvs s' q' r'
theorem pre_le {N ps : List Str} (h : N.take ps.length = ps) : ps.length ≤ N.length := by
  have h2 := congrArg List.length h
  rw [List.length_take] at h2
  omega
/-- a def whose body computes m -/
theorem fn_ok (F : FunD K name qual params body scope dvs kws f fd) (S : FnScope N ps scope) (hx : ow.x = none) (hp : ∀ i, i < ps.length → ow i = false)
    (hb : ∀ (cdv : Value) (A : Around) (outer : List PySem.Env) (s : Shared) (H : Hp) (E : XK), Ctx (cxOf (L2N.CX P w) P w K mg base N qual scope f cdv A outer s H E) (WD E) k →
      PSs (cxOf (L2N.CX P w) P w K mg base N qual scope f cdv A outer s H E) body (tS3 .val K (WD E) ow oN oB m)) :
    FnOk P w K mg base (L2N.CX P w) (k + 1) f fd ps (spM K ps.length (fn ps.length N.length m)) := by
  refine F.ok S (fun vs H Q E ⟨A, ds, r, h, _⟩ => r.length.symm.trans h) (fun cdv A outer s H vs Q E hr h => ?_)
  exact ⟨tS3 .val K (WD E) ow oN oB m, hb cdv A outer s H E ⟨rfl, L2N.takes_of rfl rfl rfl rfl, passes_of rfl, hr, S.nd⟩, spM_start (pre_le S.pre) hx hp h⟩
/-- an __init__ whose body fills self, which stands in slot 0 -/
theorem init_ok {cls : String} (F : FunD K name qual params body scope dvs kws f fd) (S : FnScope N ps scope) (hox : ow.x = none) (h0 : ow 0 = true) (hp0 : 0 < ps.length) (hp : ∀ i, 0 < i → i < ps.length → ow i = false)
    (hb : ∀ (cdv : Value) (A : Around) (outer : List PySem.Env) (s : Shared) (H : Hp) (E : XK), Ctx (cxOf (L2N.CX P w) P w K mg base N qual scope f cdv A outer s H E) (WD E) k →
      PSs (cxOf (L2N.CX P w) P w K mg base N qual scope f cdv A outer s H E) body (tS .val K (WD E) ow m)) :
    FnOk P w K mg base (L2N.CX P w) (k + 1) f fd ps (spI K ps.length cls (made ps.length N.length cls m)) := by
  refine F.ok S (fun vs H Q E ⟨A, x, dx, H1, ds, ws, h1, _, _, _, _, r, h, _⟩ => by rw [h1, List.length_cons, ← r.length]; exact h) (fun cdv A outer s H vs Q E hr h => ?_)
  obtain ⟨AV, x, dx, H1, ds, ws, rfl, hH, hx, hdx, hne, r, hl, ha, q⟩ := h
  have sd : Same H1 (upd H1 dx (.own x)) := fun b o e => by
    rw [upd_ne (ne_of_none e hdx)]
    exact e
  have hx2 : upd H1 dx (.own x) x = none := by
    rw [upd_ne fun z => hne z.symm]
    exact hx
  have s2 : Same (upd H1 dx (.own x)) H := by
    rw [hH]
    exact new_same hx2
  have s1 : Same H1 H := sd.trans s2
  refine ⟨tS .val K (WD E) ow m, hb cdv A outer s H E ⟨rfl, L2N.takes_of rfl rfl rfl rfl, passes_of rfl, hr, S.nd⟩, AV, ⟨upd H1 dx (.own x), some x⟩, fun i => if i = 0 then some x else none, (some (.ins cls []) :: ds.map some) ++ List.replicate (N.length - ps.length) none, ?_, ?_⟩
  · have hlv := r.length
    have hN : ps.length ≤ N.length := by
      have := S.pre
      have h2 := congrArg List.length this
      rw [List.length_take] at h2
      omega
    have nx : ∀ i a, (if i = 0 then some x else none) = some a → i = 0 ∧ a = x := fun i a h => by
      by_cases hi : i = 0
      · rw [if_pos hi] at h
        cases h
        exact ⟨hi, rfl⟩
      · rw [if_neg hi] at h
        cases h
    have mv : Mv AV H1 (AO AV fun i => if i = 0 then some x else none) H := ⟨fun b hb => by
      rcases hb with hb | ⟨i, hb⟩
      · exact .inl hb
      · rw [(nx i b hb).2]
        exact .inr hx, fun b o e _ => s1 b o e⟩
    refine ⟨?_, fun b hb => ne_none s1 (ha b hb), s2, fun i d h1 h2 => ?_, fun i d h1 h2 => ?_, fun i a h => ?_, fun i j a h h' => (nx i a h).1.trans (nx j a h').1.symm, fun a h => ?_, XFact.none hox⟩
    · unfold L2.start
      simp only [List.length_append, List.length_map, List.length_replicate, List.length_cons]
      omega
    · cases i with
      | zero =>
        rw [h0] at h2
        cases h2
      | succ i =>
        by_cases hi : i < ds.length
        · rw [List.getElem?_append_left (by simpa using hi), List.getElem?_cons_succ, List.getElem?_map, List.getElem?_eq_getElem hi] at h1
          simp only [Option.map_some, Option.some.injEq] at h1
          subst h1
          obtain ⟨v, hv, rv⟩ := r.get (List.getElem?_eq_getElem hi)
          exact ⟨v, start_get (by simpa using hv), Rep.move mv _ _ rv⟩
        · rw [List.getElem?_append_right (by simpa using hi)] at h1
          rw [List.getElem?_replicate] at h1
          split at h1 <;> cases h1
    · cases i with
      | zero =>
        simp only [List.cons_append, List.getElem?_cons_zero, Option.some.injEq] at h1
        subst h1
        refine ⟨x, rfl, start_get rfl, dx, [], ?_, by simp [RepF]⟩
        rw [hH]
        exact upd_same
      | succ i =>
        by_cases hi : i < ds.length
        · rw [hp (i + 1) (by omega) (by omega)] at h2
          cases h2
        · rw [List.getElem?_append_right (by simpa using hi)] at h1
          rw [List.getElem?_replicate] at h1
          split at h1 <;> cases h1
    · obtain ⟨_, rfl⟩ := nx i a h
      refine ⟨hx2, ?_, fun z => ha a z hx⟩
      rw [hH, upd_same]
      exact fun z => nomatch z
    · cases h
      rfl
  · unfold made at q
    rw [if_pos hl] at q
    refine (Out.bind q).imp (fun fl _ q => ?_) fun c fs q => ?_
    · cases fl with
      | next e' =>
        refine fun O' σ' H' R' _ => ?_
        cases e' with
        | nil => exact q.elim
        | cons d0 r0 =>
          cases d0 with
          | none => exact q.elim
          | some d1 =>
            cases d1 with
            | ins c fs =>
              have q2 : ∀ H', Same H1 H' → Rep K AV H' (.ins c fs) (.ref x) → Q .non H' := q
              refine q2 H' (sd.trans R'.same) ?_
              have hpin : O' 0 = some x := R'.pin x rfl
              obtain ⟨a, p1, p2, dx', fvs, p3, p4⟩ := R'.owns 0 (.ins c fs) rfl h0
              rw [hpin] at p1
              cases p1
              simp only [Rep]
              exact ⟨x, dx', fvs, rfl, fun z => ha x z hx, p3, RepF.move (Mv.less fun b => .inl) _ _ p4⟩
            | _ => exact q.elim
      | ret d => exact q.elim
      | brk e' => exact q.elim
      | cnt e' => exact q.elim
    · exact fun σ' da H' fvs s' q' r' => q da H' fvs (sd.trans s') q' r'
end
end Py
/-! enumerate over tuples and lists. -/
namespace PySem
open Builtin
theorem py_en_new {v : Value} {o : Obj} {H : Heap → Prop} (B : Begins v o H) :
    Meets (Builtin.«enumerate.__new__» ⟨[.type "enumerate", v], []⟩) (fun _ R s => H s.heap ∧
      R (.ok (.ret (.ref (s.heap.push o).objs.size))) { s with heap := (s.heap.push o).push { cls := .type "enumerate", data := .fields #[.none, .bool false, .ref s.heap.objs.size, rawInt 0, .none, .none] } }) :=
  .of_wp fun prog w A R s h => by
    obtain ⟨hp, g, d, tk, os⟩ := s
    obtain ⟨h1, h⟩ := h
    have hsub := sub_enumerate
    have iter1 : ∀ {A' : Around} {E : Value → Shared → Prop} {Q : Value → Shared → Prop}, Q (.ref hp.objs.size) ⟨hp.push o, g, d, tk, os⟩ → wpAny (model prog w) A' (pyIter v) Q E ⟨hp, g, d, tk, os⟩ :=
      fun q => B.iter prog w _ _ ⟨hp, g, d, tk, os⟩ _ h1 q
    wp_walk using iter1
    refine wpAny_stack_any fun st => wpAny_pure ?_
    split
    · rename_i c _ _ _ _ _
      cases (c == Value.type "enumerate")
      · wp_walk using iter1
        exact ⟨_, rfl, h⟩
      · wp_walk using iter1
        exact ⟨_, rfl, h⟩
    · wp_walk using iter1
      exact ⟨_, rfl, h⟩
theorem py_en_call {prog : Program} {w : World} {A : Around} {E : Value → Shared → Prop} {s : Shared} {v : Value} {o : Obj} {H : Heap → Prop} {Q : Value → Shared → Prop} (B : Begins v o H) (h1 : H s.heap)
    (h : ∀ h', IsEnum h' (s.heap.objs.size + 1) s.heap.objs.size 0 .none → h'.get? s.heap.objs.size = some o → h'.objs.size = s.heap.objs.size + 2 →
      (∀ b o, s.heap.get? b = some o → h'.get? b = some o) → Q (.ref (s.heap.objs.size + 1)) { s with heap := h' }) :
    wpAny (model prog w) A (call (.type "enumerate") [v]) Q E s := by
  refine callType_new F.called_enumerate (by decide) (F.typeCall_enumerate_1 _) (F.newCall_enumerate_1 _) (fun obj => F.args_object_init_2 obj _) F.entry_enumerate_new (py_en_new B) ⟨h1, ?_⟩
  have hz : (s.heap.push o).objs.size = s.heap.objs.size + 1 := Heap.size_push ..
  show _ ∧ _
  rw [hz]
  have he : IsEnum ((s.heap.push o).push { cls := .type "enumerate", data := .fields #[.none, .bool false, .ref s.heap.objs.size, rawInt 0, .none, .none] }) (s.heap.objs.size + 1) s.heap.objs.size 0 .none := by
    have this := Heap.get?_push_size (s.heap.push o) (o := { cls := .type "enumerate", data := .fields #[.none, .bool false, .ref s.heap.objs.size, rawInt 0, .none, .none] }) rfl
    rw [hz] at this
    exact this
  exact ⟨⟨_, he, rfl⟩, h _ he (Heap.get?_push_of_some _ (Heap.get?_push_size _ B.free)) (by rw [Heap.size_push, hz]) fun b o x => Heap.get?_push_of_some _ (Heap.get?_push_of_some _ x)⟩
end PySem
namespace Py
open PySem L2
/-- enumerate over the tuple at a -/
def Iet (K : Frag) (a : Addr) : It :=
  ⟨fun i H => ∃ (xs : List V) (x : V), SqT K H a xs ∧ xs[i]? = some x, fun i H v H' => ∃ T x, v = .ref T ∧ H T = none ∧ H' = upd H T (.tup [.int (i : Nat), x]) ∧ ∀ xs, SqT K H a xs → xs[i]? = some x, fun i H => ∃ xs : List V, SqT K H a xs ∧ i = xs.length⟩
theorem turn_enumT {P : Program} {w : World} {K : Frag} {elts : List Expr} {kk : Nat} {tpos : Pos} (a e it : Addr) :
    Turn P w K (.Tuple elts kk tpos) (Iet K a) [e, it] e (fun i h => (∃ old, IsEnum h e it ((i : Nat) : Int) old) ∧ h.IsTupleIter it a i ∧ e ≠ it ∧ a ≠ it ∧ a ≠ e) where
  mem := by simp
  obj := fun i h st b hb => by
    obtain ⟨⟨old, he⟩, ⟨o, ho, hc, hd⟩, _⟩ := st
    rcases (by simpa using hb : b = e ∨ b = it) with z | z
    · subst z
      exact ⟨_, he, fun v q => nomatch q⟩
    · subst z
      exact ⟨o, ho, fun v q => by rw [hd] at q; cases q⟩
  keep := fun i h h' st k => by
    obtain ⟨⟨old, he⟩, hi, n1, n2, n3⟩ := st
    exact ⟨⟨old, k e (by simp) _ he⟩, hi.at fun o q => k it (by simp) o q, n1, n2, n3⟩
  item := by
    intro X hP hw hK hc i pins s σ H E I hf st hg
    subst hP hw hK
    obtain ⟨⟨old, he⟩, hit, n1, n2, n3⟩ := st
    obtain ⟨xs, x, hq, hx⟩ := hg
    obtain ⟨its, rv, tp, hz⟩ := I.tuple hq
    obtain ⟨u, hu, ru⟩ := rv.get hx
    have hel : e < s.heap.objs.size := Heap.lt_size he
    have hil : it < s.heap.objs.size := by
      obtain ⟨_, q, _⟩ := hit
      exact Heap.lt_size q
    have hi : i < its.toArray.size := by
      have := (List.getElem?_eq_some_iff.mp hu).1
      simpa using this
    have htp : s.heap.IsTuple a its.toArray := tp
    refine wpAny_pyNext_enum_itemD (Draws.tuple (prog := X.prog) (w := X.w) (A := X.A.in1) (I.ok.hd hc) it a n2 its.toArray) he (show _ ∧ _ from ⟨hit, htp⟩) hi n1 (by simp [n1, n3.symm]) fun x' h' tk hP' ho hst' hT hsz hk => ?_
    have hxu : x' = u := by
      have q1 : its[i]? = some x' := by simpa using hP'
      rw [hu] at q1
      exact (Option.some.inj q1).symm
    subst hxu
    refine ⟨_, rfl, wpAny_letOwnedTupleGo_enum (s := { s with heap := h', toks := tk + 1 }) ho fun h'' he' sb => ?_⟩
    have hT2 : h''.get? s.heap.objs.size = some { cls := .type "tuple", data := .seq #[.int i tk, x'] } := (sb.2 _ (Nat.ne_of_gt hel)).trans hT
    have new : ObjOk X.prog X.w (upd H s.heap.objs.size (.tup [.int (i : Nat), x])) h'' s.heap.objs.size (.tup [.int (i : Nat), x]) :=
      ⟨by show 2 ≤ sizeLine; decide, [.int i tk, x'], .cons ⟨_, rfl⟩ (.cons ru .nil), ⟨_, hT2, rfl, _, rfl⟩⟩
    have I1 : Inv X pins σ (upd H s.heap.objs.size (.tup [.int (i : Nat), x])) { s with heap := h'', toks := tk + 1 } :=
      I.turnedNew (ch := [e, it]) (fun b ob hb q => (sb.2 b fun z => hb (by simp [z])).trans (hk b ob (fun z => hb (by simp [z])) (fun z => hb (by simp [z])) q)) hf (Nat.le_refl _) new
    refine ⟨.ref s.heap.objs.size, _, I1, rfl, ⟨_, x, rfl, I.hok.fresh (Nat.le_refl _), rfl, fun ys hy => by rw [I.tuple_inj hy hq]; exact hx⟩, ⟨⟨x', ?_⟩, hst'.1.at fun o q => (sb.2 it n1.symm).trans q, n1, n2, n3⟩, fun b hb => ?_⟩
    · have e1 : ((i + 1 : Nat) : Int) = (i : Int) + 1 := by omega
      rw [e1]
      exact he'
    · have hb' : b < s.heap.objs.size := by
        rcases (by simpa using hb : b = e ∨ b = it) with z | z
        · subst z
          exact hel
        · subst z
          exact hil
      rw [upd_ne (Nat.ne_of_lt hb')]
      exact (hf b hb).1
  done := by
    intro X hP hw hK hc i pins s σ H E I hf st hg
    subst hP hw hK
    obtain ⟨⟨old, he⟩, hit, n1, n2, n3⟩ := st
    obtain ⟨xs, hq, hx⟩ := hg
    obtain ⟨its, rv, tp, hz⟩ := I.tuple hq
    obtain ⟨f0, f1, f2, f3, f4, f5⟩ := hf it (by simp)
    have hl := rv.length
    have htp : s.heap.IsTuple a its.toArray := tp
    have hi2 : i = its.toArray.size := by
      rw [List.size_toArray]
      omega
    subst hi2
    exact wpAny_pyNext_enum_endD (Draws.tuple (prog := X.prog) (w := X.w) (A := X.A.in1) (I.ok.hd hc) it a n2 its.toArray) he (show _ ∧ _ from ⟨hit, htp⟩) fun h' eb => ⟨rfl, I.turned (t' := s.toks) (fun b o hb q => eb b o hb q) f0 f1 f3 f4 f5⟩
  self := fun A i s Q E st h => by
    obtain ⟨⟨_, he⟩, _⟩ := st
    exact wpAny_pyIter_enum he h
section
variable {X : Cx} {W : WX} {ow : Ow} {a b c e : Expr} {es elts : List Expr} {m ma mb mc : EM} {pos p tpos : Pos} {kk : Nat}
def iEnumE (K : Frag) (ta : TA) : TI := fun σ H R => ta σ H fun vs H1 => ∃ a, vs = [.ref a] ∧ ((∃ xs, SqL K H1 a xs ∧ R (Ite K a) H1) ∨ ∃ xs, SqT K H1 a xs ∧ R (Iet K a) H1)
theorem pi_enumE {ta : TA} (hg : Gl X "enumerate") (hm : X.mg "enumerate" = none) (ha : PA X [e] ta) (hs : starEach [e] X.env = [(false, eval e X.env)] := by rfl) : PI X (.Tuple elts kk tpos) (.Call (.Name "enumerate" p) [e] [] pos) (iEnumE X.K ta) := by
  refine ⟨fun pins s σ H R I h => ?_⟩
  refine PyProof.Rows.Call_ (ld_blt I hg hm PyProof.Rows.boot_enumerate (PyProof.Rows.callWith_type1 (thn (ha.run pos pins s σ H _ I h) fun us s1 ⟨vs, H1, I1, r1, q1⟩ => ?_) hs rfl))
  obtain ⟨a, ex, q⟩ := q1
  subst ex
  obtain ⟨u, rfl, ru⟩ := vals1 r1
  cases ru
  have fin : ∀ b ∈ [s1.heap.objs.size + 1, s1.heap.objs.size], FpOk X pins H1 b := fun b hb => by
    have hle : s1.heap.objs.size ≤ b := by
      rcases (by simpa using hb : b = s1.heap.objs.size + 1 ∨ b = s1.heap.objs.size) with z | z
      · rw [z]
        exact Nat.le_add_right _ _
      · rw [z]
        exact Nat.le_refl _
    exact I1.fpOk hle (I1.hok.fresh hle)
  rcases q with ⟨xs, hq, q⟩ | ⟨xs, hq, q⟩
  · obtain ⟨its, rv, tp, hz⟩ := I1.list hq
    refine py_en_call (begins_list a its.toArray) tp.isList fun h' he hit hsz hk => wpAny_pyIter_enum he ?_
    exact ⟨s1.heap.objs.size + 1, [s1.heap.objs.size + 1, s1.heap.objs.size], _, _, H1, rfl, I1.kept (t' := s1.toks) hk, turn_enum a (s1.heap.objs.size + 1) s1.heap.objs.size, ⟨⟨.none, he⟩, ⟨_, hit, rfl, rfl⟩, Nat.succ_ne_self _⟩, fin, q⟩
  · obtain ⟨its, rv, tp, hz⟩ := I1.tuple hq
    have hlt : a < s1.heap.objs.size := tp.lt
    refine py_en_call (begins_tuple a its.toArray) tp fun h' he hit hsz hk => wpAny_pyIter_enum he ?_
    exact ⟨s1.heap.objs.size + 1, [s1.heap.objs.size + 1, s1.heap.objs.size], _, _, H1, rfl, I1.kept (t' := s1.toks) hk, turn_enumT a (s1.heap.objs.size + 1) s1.heap.objs.size, ⟨⟨.none, he⟩, ⟨_, hit, rfl, rfl⟩, Nat.succ_ne_self _, Nat.ne_of_lt hlt, Nat.ne_of_lt (Nat.lt_succ_of_lt hlt)⟩, fin, q⟩
theorem enumL_get : ∀ {ds : List D} {n i : Nat} {d : D}, ds[i]? = some d → (enumL n ds)[i]? = some (.tup [.int ((n + i : Nat) : Int), d])
  | [], _, _, _, h => by simp at h
  | x :: ds, n, 0, d, h => by
    simp at h
    subst h
    rfl
  | x :: ds, n, i + 1, d, h => by
    simp only [enumL, List.getElem?_cons_succ]
    rw [enumL_get (n := n + 1) (by simpa using h)]
    rw [Nat.add_right_comm]
    rfl
theorem enumL_len : ∀ (ds : List D) (n : Nat), (enumL n ds).length = ds.length
  | [], _ => rfl
  | x :: ds, n => by
    simp only [enumL, List.length_cons]
    rw [enumL_len ds]
theorem enum_item {K : Frag} {A : AS} {H : Hp} {T : Addr} {i : Nat} {d : D} {v : V} (hn : H T = none) (r : Rep K A H d v) : Same H (upd H T (.tup [.int (i : Nat), v])) ∧ Rep K A (upd H T (.tup [.int (i : Nat), v])) (.tup [.int ((0 + i : Nat) : Int), d]) (.ref T) := by
  refine ⟨new_same hn, new_tup ?_ hn⟩
  rw [Nat.zero_add]
  simp only [RepL]
  exact ⟨_, _, rfl, rfl, v, [], rfl, r, rfl⟩
theorem itm_enumT {K : Frag} {A : AS} {H : Hp} {a : Addr} {ds : List D} {vs : List V} (q : SqT K H a vs) (r : RepL K A H ds vs) : Itm Mv K A (Iet K a) (enumL 0 ds) H := fun i A2 H2 m => by
  have q2 := SqT.move m q
  have r2 := RepL.move m ds vs r
  rw [enumL_len]
  refine ⟨fun hi => ?_, fun hi => ⟨vs, q2, by rw [← r.length]; exact hi⟩⟩
  obtain ⟨v, hv, rv⟩ := r2.get (i := i) (List.getElem?_eq_getElem hi)
  refine ⟨⟨vs, v, q2, hv⟩, fun x H3 ⟨T, x', e1, hn, e2, k⟩ => ?_⟩
  subst e1 e2
  have := k vs q2
  rw [hv] at this
  cases this
  obtain ⟨s1, r1⟩ := enum_item (i := i) hn rv
  exact ⟨s1, _, enumL_get (List.getElem?_eq_getElem hi), r1⟩
theorem itm_enumL {M : MvT} {K : Frag} {A : AS} {H : Hp} {a : Addr} {ds : List D} {vs : List V} (hM : ∀ A2 H2, M A H A2 H2 → Mv A H A2 H2 ∧ Rd H2 a (.lst vs)) (r : RepL K A H ds vs) : Itm M K A (Ite K a) (enumL 0 ds) H := fun i A2 H2 m => by
  obtain ⟨mv, rd⟩ := hM A2 H2 m
  have q2 : SqL K H2 a vs := .inl rd
  have r2 := RepL.move mv ds vs r
  rw [enumL_len]
  refine ⟨fun hi => ?_, fun hi => ⟨vs, q2, by rw [← r.length]; exact Nat.le_of_eq hi.symm⟩⟩
  obtain ⟨v, hv, rv⟩ := r2.get (i := i) (List.getElem?_eq_getElem hi)
  refine ⟨⟨vs, v, q2, hv⟩, fun x H3 ⟨T, x', e1, hn, e2, k⟩ => ?_⟩
  subst e1 e2
  have := k vs q2
  rw [hv] at this
  cases this
  obtain ⟨s1, r1⟩ := enum_item (i := i) hn rv
  exact ⟨s1, _, enumL_get (List.getElem?_eq_getElem hi), r1⟩
theorem i_enum (hg : Gl X "enumerate") (hm : X.mg "enumerate" = none) (ha : PE X a (tE X.K W ow ma)) (hs : starEach [a] X.env = [(false, eval a X.env)] := by rfl) : PI X (.Tuple elts kk tpos) (.Call (.Name "enumerate" p) [a] [] pos) (tI Mv X.K W ow (ienum ma)) :=
  PI.of (pi_enumE hg hm (pa_cons ha pa_nil hs) hs) fun σ H R' ⟨A, H0, O, en, R, q⟩ => ⟨A, H0, O, en, R, (Out.bind (Out.bind q)).good fun d q1 v H1 s1 r1 => by
    cases d with
    | lst xs =>
      obtain ⟨p, vs, rfl, n, h, r⟩ := (by simpa only [Rep] using r1 : ∃ a vs, v = .ref a ∧ ¬ AO A O a ∧ Rd H1 a (.lst vs) ∧ RepL X.K (AO A O) H1 xs vs)
      exact ⟨p, rfl, .inl ⟨vs, .inl h, q1 _ H1 s1 (itm_enumL (fun A2 H2 m => ⟨m, (Rd.move m h n).1⟩) r)⟩⟩
    | tup xs =>
      obtain ⟨p, vs, rfl, h, r⟩ := (by simpa only [Rep] using r1 : ∃ a vs, v = .ref a ∧ SqT X.K H1 a vs ∧ RepL X.K (AO A O) H1 xs vs)
      exact ⟨p, rfl, .inr ⟨vs, h, q1 _ H1 s1 (itm_enumT h r)⟩⟩
    | _ => exact q1.elim⟩
end
end Py
/-! Comprehensions as expressions, what the module's names stand for, the ends. -/
namespace Py
open PySem L2
theorem f_le {K : Frag} {W : WX} {ow : Ow} {m : EM} {σ : L2.St} {H : Hp} {Q : VK} (h : tE K W ow m σ H Q) : tF K W ow m σ H Q := by
  obtain ⟨A, H0, O, en, R, q⟩ := h
  refine ⟨A, H0, O, en, R, q.good fun d k a H' n s r => k (.ref a) H' s ?_⟩
  have na : ¬ AO A O a := fun z => R.there a z n
  have mv : Mv (fun b => AO A O b ∨ b = a) H' (AO A O) H' := Mv.less fun b x => .inl x
  exact r.rep mv na
section
variable {X : Cx} {W : WX} {ow : Ow} {a b c e : Expr} {es : List Expr} {m ma mb mc : EM} {am : AM} {pos p spos : Pos} {k j n : Nat}
variable {elt tg iter : Expr} {ifs : List Expr} {scope : Scope} {own : List (Str × Nat)} {it : IM} {g : GM} {t : TM} {me : EM} {ts : List Nat}
theorem ts_nil : PTs X [] (tT X.K W ow yes) := ⟨fun pins s σ H Q I ⟨A, H0, O, en, R, q⟩ => pts_nil.run pins s σ H Q I (q H (Same.refl H))⟩
theorem ts_one (h : PT X c (tT X.K W ow t)) : PTs X [c] (tT X.K W ow t) := pts_one h
/-- [elt for tg in iter if ..] -/
theorem f_lc (T : Ctx X W j) (hi : PI X tg iter (tI Gr X.K W ow it)) (ok : BlkOk X.N X.env.scope scope own)
    (hg : ∀ (s : Shared) (H : Hp) (C : Addr) (cl : List (Str × Addr)) (fp : List Addr), Ctx (X.blk s H scope (compEnvC scope cl C X.env) fp) W0 j → PG (X.blk s H scope (compEnvC scope cl C X.env) fp) tg (tGt X.K ow ts g))
    (ht : ∀ (s : Shared) (H : Hp) (C : Addr) (cl : List (Str × Addr)) (fp : List Addr), Ctx (X.blk s H scope (compEnvC scope cl C X.env) fp) W0 j → PTs (X.blk s H scope (compEnvC scope cl C X.env) fp) ifs (tT X.K W0 ow t))
    (he : ∀ (s : Shared) (H : Hp) (C : Addr) (cl : List (Str × Addr)) (fp : List Addr), Ctx (X.blk s H scope (compEnvC scope cl C X.env) fp) W0 j → PE (X.blk s H scope (compEnvC scope cl C X.env) fp) elt (tE X.K W0 ow me))
    (hts : ∀ i ∈ ts, i ∈ own.map (·.2)) (hx : ow.x = none := by rfl) (hs : ∀ x, foldedSetIterable iter X.env x = pure x := by intro _; rfl) :
    PE X (.ListComp elt [⟨tg, iter, ifs, 0⟩] scope pos) (tF X.K W ow (lcE it (own.map (·.2)) g t me)) :=
  PE.of (pe_lc T.calm T.nd hi ok (fun s H C cl fp => hg s H C cl fp (T.blk ..)) (fun s H C cl fp => ht s H C cl fp (T.blk ..)) (fun s H C cl fp => he s H C cl fp (T.blk ..)) hs) fun _ _ _ h => lc_of hx hts h
/-- y = [..], y a plain local -/
theorem s_lc0 {i : Nat} {y : Str} {py : Pos} (T : Ctx X W j) (hy : X.N[i]? = some y) (hyl : X.env.scope.names.lookup y = some .local)
    (hsw : swapsWith (.ListComp elt [⟨tg, iter, ifs, 0⟩] scope pos) (some (.Name y py)) spos.line X.env = pure true) (hi : PI X tg iter (tI Gr X.K W ow it)) (ok : BlkOk X.N X.env.scope scope own)
    (hg : ∀ (s : Shared) (H : Hp) (C : Addr) (cl : List (Str × Addr)) (fp : List Addr), Ctx (X.blk s H scope (compEnvC scope cl C X.env) fp) W0 j → PG (X.blk s H scope (compEnvC scope cl C X.env) fp) tg (tGt X.K ow ts g))
    (ht : ∀ (s : Shared) (H : Hp) (C : Addr) (cl : List (Str × Addr)) (fp : List Addr), Ctx (X.blk s H scope (compEnvC scope cl C X.env) fp) W0 j → PTs (X.blk s H scope (compEnvC scope cl C X.env) fp) ifs (tT X.K W0 ow t))
    (he : ∀ (s : Shared) (H : Hp) (C : Addr) (cl : List (Str × Addr)) (fp : List Addr), Ctx (X.blk s H scope (compEnvC scope cl C X.env) fp) W0 j → PE (X.blk s H scope (compEnvC scope cl C X.env) fp) elt (tE X.K W0 ow me))
    (hts : ∀ i ∈ ts, i ∈ own.map (·.2)) (hx : ow.x = none := by rfl) (hs : ∀ x, foldedSetIterable iter X.env x = pure x := by intro _; rfl) :
    PS X (.Assign [.Name y py] (.ListComp elt [⟨tg, iter, ifs, 0⟩] scope pos) spos) (tAsg (tF X.K W ow (lcE it (own.map (·.2)) g t me)) (gName i)) :=
  PS.of (ps_setLc T.calm T.nd hy hyl hsw hi ok (fun s H C cl fp => hg s H C cl fp (T.blk ..)) (fun s H C cl fp => ht s H C cl fp (T.blk ..)) (fun s H C cl fp => he s H C cl fp (T.blk ..)) hs) fun _ _ _ h => lc_of hx hts h
theorem s_f {st : Stmt} {i : Nat} (h : PS X st (tAsg (tF X.K W ow m) (gName i))) : PS X st (tAsg (tE X.K W ow m) (gName i)) := PS.of h fun _ _ _ q => f_le q
/-! ### is True -/
end
/-! ### a try that runs through -/
theorem Ctx.nox {X : Cx} {W : WX} {k : Nat} (c : Ctx X W k) : Ctx X.nox W0 k := ⟨c.calm, takes0N, PassesOwn.never, c.hr, c.nd⟩
section
variable {fr : Rm} {X : Cx} {W : WX} {ow : Ow} {body : List Stmt} {u : SM} {h0 : ExceptHandler} {hs : List ExceptHandler} {pos : Pos} {j : Nat}
theorem s_thru (T : Ctx X W j) (hb : Ctx X.nox W0 j → PSs X.nox body (tS fr X.K W0 ow u)) : PS X (.Try body (h0 :: hs) [] [] pos) (tS fr X.K W ow (thru u)) :=
  PS.of (ps_try_thru0 (hb T.nox)) fun D σ H ⟨A, H0, O, en, R, q⟩ => ⟨A, H0, O, en, R, by
    have q1 : Out (noexc (u en)) (EndOk fr X.K A H0 ow O H D) (badS X.K W A H0) := q
    exact q1.noexc⟩
end
/-! ### what the module's names stand for -/
/-- the name x calls a def of n parameters that computes fm -/
def CallOk (P : Program) (w : World) (K : Frag) (mg : Str → Option Value) (base : Heap) (k : Nat) (x : Str) (d : He.DefD) (ps : List Str) (n : Nat) (fm : List D → Res D) : Prop := ∃ f fd, mg x = some (.ref f) ∧ PySem.W.keepIn K (.ref f) = true ∧ Binds K fd ps [] ∧ FnOk P w K mg base (L2N.CX P w) k f fd ps (spM K n fm) ∧ Ar n fm ∧ FunD K d.name d.qual d.params d.body d.scope [] [] f fd
/-- the name cls makes an instance -/
def MakeOk (P : Program) (w : World) (K : Frag) (mg : Str → Option Value) (base : Heap) (k : Nat) (cls : String) (n : Nat) (fm : List D → Res D) : Prop := ∃ f fd ps, mg (Str.ofString cls) = some (.ref (ca K cls)) ∧ Mk K (ca K cls) f ∧ Binds K fd ps [] ∧ FnOk P w K mg base (L2N.CX P w) k f fd ps (spI K n cls fm) ∧ ∀ ds, ds.length + 1 ≠ n → fm ds = .stuck
section
variable {X : Cx} {W : WX} {ow : Ow} {e : Expr} {es : List Expr} {am : AM} {pos p : Pos} {k j n : Nat} {x : Str} {fm : List D → Res D} {d : He.DefD} {ps : List Str}
theorem x_own1 (T : Ctx X W j) (C : CallOk X.prog X.w X.K X.mg X.base k x d ps n fm) (hk : k ≤ j) (hg : Gl X x) (ha : PA X (e :: es) (aE X.K W ow am)) (hdb : (x == ("__debug__" : Str)) = false := by decide)
    (he : starEach (e :: es) X.env = (false, eval e X.env) :: starEach es X.env := by rfl) (hpl : (backTo pos (starEach es X.env)).any (·.1) = false := by rfl) : PE X (.Call (.Name x p) (e :: es) [] pos) (tE X.K W ow (call fm am)) := by
  obtain ⟨f, fd, h1, h2, h3, h4, h5, _⟩ := C
  exact x_call T h4 h5 hk hg h1 h2 h3 ha hdb he hpl
theorem x_new {cls : String} (T : Ctx X W j) (C : MakeOk X.prog X.w X.K X.mg X.base k cls n fm) (hk : k + 1 ≤ j) (hg : Gl X (Str.ofString cls)) (ha : PA X (e :: es) (aE X.K W ow am)) (hdb : (Str.ofString cls == ("__debug__" : Str)) = false := by decide)
    (he : starEach (e :: es) X.env = (false, eval e X.env) :: starEach es X.env := by rfl) (hpl : (backTo pos (starEach es X.env)).any (·.1) = false := by rfl) : PE X (.Call (.Name (Str.ofString cls) p) (e :: es) [] pos) (tE X.K W ow (call fm am)) := by
  obtain ⟨f, fd, ps, h1, h2, h3, h4, h5⟩ := C
  exact x_make T h2 h4 h5 hk hg h1 h3 ha hdb he hpl
end
/-! ### defs by the head's facts -/
section
variable {P : Program} {w : World} {K : Frag} {mg : Str → Option Value} {base : Heap} {k : Nat} {ow oN oB : Ow} {m : SM} {name qual : Str} {params : Arguments} {body : List Stmt} {scope : Scope} {f : Addr} {N ps : List Str} {p n : Nat}
theorem def_ok {d : He.DefD} (F : ∃ fd, FunD K d.name d.qual d.params d.body d.scope [] [] f fd) (g : mg d.name = some (.ref f)) (S : FnScope N ps d.scope) (hpl : ps.length = p) (hnl : N.length = n) (hp : ∀ i, i < p → ow i = false)
    (hbind : ∀ (kV doc pm : Value) (an : Option Addr) (cdv ct : Value) (us : List Value), us.length = ps.length → bindArgs (PySem.W.fnOf d.name d.qual d.params d.body d.scope .none kV doc pm an cdv ct) ⟨us, []⟩ = pure (ps.zip us))
    (hb : ∀ (cdv : Value) (A : Around) (outer : List PySem.Env) (s : Shared) (H : Hp) (E : XK), Ctx (cxOf (L2N.CX P w) P w K mg base N d.qual d.scope f cdv A outer s H E) (WD E) k →
      PSs (cxOf (L2N.CX P w) P w K mg base N d.qual d.scope f cdv A outer s H E) d.body (tS3 .val K (WD E) ow oN oB m)) (hx : ow.x = none := by rfl) : CallOk P w K mg base (k + 1) d.name d ps p (fn p n m) := by
  obtain ⟨fd, F⟩ := F
  subst hpl hnl
  exact ⟨f, fd, g, F.kp, FunD.bindsN F hbind, fn_ok F S hx hp hb, ar_fn, F⟩
theorem ar_made {p n : Nat} {cls : String} {body : SM} : ∀ ds, ds.length + 1 ≠ p → made p n cls body ds = .stuck := fun ds h => if_neg h
theorem cls_ok {cls : String} (F : ∃ fd, FunD K name qual params body scope [] [] f fd) (g : mg (Str.ofString cls) = some (.ref (ca K cls))) (M : Mk K (ca K cls) f) (S : FnScope N ps scope) (hpl : ps.length = p) (hnl : N.length = n) (h0 : ow 0 = true) (hp0 : 0 < p) (hp : ∀ i, i < p → 0 < i → ow i = false)
    (hbind : ∀ (kV doc pm : Value) (an : Option Addr) (cdv ct : Value) (us : List Value), us.length = ps.length → bindArgs (PySem.W.fnOf name qual params body scope .none kV doc pm an cdv ct) ⟨us, []⟩ = pure (ps.zip us))
    (hb : ∀ (cdv : Value) (A : Around) (outer : List PySem.Env) (s : Shared) (H : Hp) (E : XK), Ctx (cxOf (L2N.CX P w) P w K mg base N qual scope f cdv A outer s H E) (WD E) k →
      PSs (cxOf (L2N.CX P w) P w K mg base N qual scope f cdv A outer s H E) body (tS .val K (WD E) ow m)) (hx : ow.x = none := by rfl) : MakeOk P w K mg base (k + 1) cls p (made p n cls m) := by
  obtain ⟨fd, F⟩ := F
  subst hpl hnl
  exact ⟨f, fd, ps, g, M, FunD.bindsN F hbind, init_ok F S hx h0 hp0 (fun i a b => hp i b a) hb, ar_made⟩
end
/-! ### the head's facts, tables, and one more -/
/-! ### a table of texts -/
def TabOk (K : Frag) (w : World) (mg : Str → Option Value) (x : Str) (tab : List (String × Int)) : Prop :=
  ∃ d es n, mg x = some (.ref d) ∧ KDict K w d es n ∧ ∀ z : String, ∃ r, PySem.W.nsIn K d (Str.ofString z) = some r ∧ (tab.lookup z = none → r = none) ∧ ∀ i, tab.lookup z = some i → ∃ t, r = some (.int i t)
theorem lookup_mem {z : String} {i : Int} : ∀ {tab : List (String × Int)}, tab.lookup z = some i → (z, i) ∈ tab
  | [], h => by cases h
  | (y, j) :: r, h => by
    rw [List.lookup_cons] at h
    split at h
    · rename_i e
      have e1 : z = y := by simpa using e
      cases h
      subst e1
      exact List.mem_cons_self
    · exact List.mem_cons_of_mem _ (lookup_mem h)
theorem lookup_no {z : String} : ∀ {tab : List (String × Int)}, tab.lookup z = none → ∀ q ∈ tab, q.1 ≠ z
  | [], _, q, hq => by cases hq
  | (y, j) :: r, h, q, hq => by
    rw [List.lookup_cons] at h
    split at h
    · cases h
    · rename_i e
      rcases List.mem_cons.mp hq with e1 | hq
      · subst e1
        intro e2
        have e2 : y = z := e2
        subst e2
        simp at e
      · exact lookup_no h q hq
theorem tab_keys {P : Params} : ∀ {l : List DictEntry} {ks : List Str}, l.map He.keyOf = He.keysIn P ks → ∀ e ∈ l, ∃ k t, e.key = .str k t ∧ k ∈ ks
  | [], _, _, e, he => by cases he
  | e0 :: r, [], h, _, _ => by cases h
  | e0 :: r, k :: ks, h, e, he => by
    have h1 : He.keyOf e0 :: r.map He.keyOf = some (k, PyData.keyHash P k) :: He.keysIn P ks := h
    injection h1 with h2 h3
    rcases List.mem_cons.mp he with e1 | he
    · subst e1
      unfold He.keyOf at h2
      split at h2
      · rename_i x t q
        have h4 := Option.some.inj h2
        obtain ⟨h5, h6⟩ := Prod.mk.inj h4
        exact ⟨x, t, q, by rw [h5]; exact List.mem_cons_self⟩
      · cases h2
    · obtain ⟨k1, t, e1, m⟩ := tab_keys h3 e he
      exact ⟨k1, t, e1, List.mem_cons_of_mem _ m⟩
theorem tab_ok {K : Frag} {w : World} {mg : Str → Option Value} {x : Str} {tab : List (String × Int)} (hraw : He.dicW K (He.ga K x) = some (He.keysIn w.params (tab.map fun q => Str.ofString q.1))) (hv : He.valsB K (He.ga K x) (tab.map fun q => (Str.ofString q.1, He.Dv.int q.2)) = true) (hg : mg x = some (.ref (He.ga K x))) : TabOk K w mg x tab := by
  obtain ⟨es, n, D⟩ := He.dicW_ok hraw
  refine ⟨_, es, n, hg, D, fun z => ?_⟩
  cases e : tab.lookup z with
  | some i =>
    have m := lookup_mem e
    obtain ⟨u, h1, h2⟩ := He.valsB_ok hv (q := (Str.ofString z, He.Dv.int i)) (List.mem_map.mpr ⟨_, m, rfl⟩)
    refine ⟨_, h1, (fun q => nomatch q), fun j q => ?_⟩
    cases q
    obtain ⟨t, rfl⟩ := (show ∃ t, u = Value.int i t from h2)
    exact ⟨t, rfl⟩
  | none =>
    have no := lookup_no e
    have ks : es.toList.map He.keyOf = He.keysIn w.params (tab.map fun q => Str.ofString q.1) := by
      unfold He.dicW at hraw
      rw [D.at_] at hraw
      have low := D.low
      simp only [low, decide_true, Bool.true_and, Bool.not_false, Bool.and_true] at hraw
      simpa using hraw
    refine ⟨none, ?_, fun _ => rfl, fun j q => nomatch q⟩
    unfold PySem.W.nsIn
    rw [D.at_]
    have ef : es.toList.find? (·.key.isStr (Str.ofString z)) = none := by
      rw [List.find?_eq_none]
      intro ent hent h
      obtain ⟨k, t, e1, m⟩ := tab_keys ks ent hent
      rw [e1] at h
      obtain ⟨q, hq, e2⟩ := List.mem_map.mp m
      have e3 : k = Str.ofString z := by simpa [Value.isStr] using h
      exact no q hq (ofS_inj (e2.trans e3))
    have er : es.toList.any (·.refKey) = false := by
      rw [List.any_eq_false]
      intro ent hent h
      obtain ⟨k, t, e1, m⟩ := tab_keys ks ent hent
      simp [DictEntry.refKey, e1] at h
    simp only [ef, er]
    rfl
section
variable {X : Cx} {W : WX} {ow : Ow} {a : Expr} {ma : EM} {pos p : Pos} {tab : List (String × Int)} {nm : Str}
theorem t_nothas (T : TabOk X.K X.w X.mg nm tab) (hg : Gl X nm) (ha : PE X a (tE X.K W ow ma)) (hm : behindInMarks .NotIn (.Name nm p) = false := by rfl) (hd : (nm == ("__debug__" : Str)) = false := by decide) : PT X (.Compare a [.NotIn] [.Name nm p] pos) (tT X.K W ow (tst (un (onothas tab) ma))) := by
  obtain ⟨d, es, n, h1, h2, h3⟩ := T
  refine PT.of (pt_cmpR (op_notIn_kd h2) ha (pe_glob (v := .ref d) hg h1 rfl hd) hm) fun σ H Q ⟨A, H0, O, en, R, q⟩ => ⟨A, H0, O, en, R, (Out.bind (Out.bind q)).good fun d1 q1 v1 H1 s1 r1 => ?_⟩
  cases d1 with
  | str z =>
    obtain ⟨r, e, k1, k2⟩ := h3 z
    refine ⟨_, r, r1, rfl, e, _, rfl, ?_⟩
    have e2 : r.isSome = (tab.lookup z).isSome := by
      cases e3 : tab.lookup z with
      | none => rw [k1 e3] <;> rfl
      | some i =>
        obtain ⟨t, e4⟩ := k2 i e3
        rw [e4] <;> rfl
    rw [e2]
    exact q1 _ s1
  | _ => exact q1.elim
theorem x_look (T : TabOk X.K X.w X.mg nm tab) (hg : Gl X nm) (ha : PE X a (tE X.K W ow ma)) (hs : PlainIx a := by exact fun _ _ => rfl) (hd : (nm == ("__debug__" : Str)) = false := by decide) : PE X (.Subscript (.Name nm p) a pos) (tE X.K W ow (un (olook tab) ma)) := by
  obtain ⟨d, es, n, h1, h2, h3⟩ := T
  refine PE.of (pe_ix ix_kdict (pe_glob (v := .ref d) hg h1 rfl hd) ha hs) fun σ H Q ⟨A, H0, O, en, R, q⟩ => ?_
  refine (⟨A, H0, O, en, R, (Out.bind q).good fun d1 q1 v1 H1 s1 r1 => ?_⟩ : tE X.K W ow ma σ H _)
  cases d1 with
  | str z =>
    obtain ⟨r, e, k1, k2⟩ := h3 z
    cases e3 : tab.lookup z with
    | none =>
      simp only [olook, e3, opt, Option.map_none] at q1
      exact q1.elim
    | some i =>
      obtain ⟨t, e4⟩ := k2 i e3
      subst e4
      simp only [olook, e3, opt, Option.map_some] at q1
      exact ⟨d, Str.ofString z, .int i, rfl, r1, ⟨es, n, _, h2.at_, h2.lit, e, ⟨t, rfl⟩⟩, q1 _ _ s1 (flat_rep (d := .int i) rfl _ _)⟩
  | _ => exact q1.elim
end
/-! ### append -/
theorem s_app1 {fr : Rm} {X : Cx} {W : WX} {ow : Ow} {i : Nat} {o e : Expr} {m : EM} {apos cpos pos : Pos} (ho : PE X o (tVar i)) (h : PE X e (tE X.K W ow m)) (hi : ow i = true)
    (hbase : attributeBase o "append" X.env (eval o X.env) = eval o X.env := by rfl)
    (hfew : ((backTo cpos (starEach [e] X.env)).all (fun x => !x.1) && (backToKw cpos (keywordEach [] X.env)).all (fun x => x.1.isSome)
      && decide (([e] : List Expr).length + ([] : List Keyword).length + (if ([] : List Keyword).isEmpty then 0 else 1) < 30)) = true := by rfl)
    (hline : (apos.endLine == cpos.line) = true := by rfl) (hs : starEach [e] X.env = [(false, eval e X.env)] := by rfl)
    (hsw : swapsWith (.Call (.Attribute o "append" apos) [e] [] cpos) none pos.line X.env = pure false := by rfl) :
    PS X (.Expr (.Call (.Attribute o "append" apos) [e] [] cpos) pos) (tS fr X.K W ow (app i m)) :=
  s_app (ps_expr (pe_bm PySem.F.plainAttrs_list PySem.F.slot_list_append PySem.F.type_list_append mt_append ho (pa_cons h pa_nil hs) hbase hfew hline hs (by rfl)) hsw) hi
/-! ### code that is not reached -/
/-! ### the law -/
end Py
/-! What a head tells, in one place; the law's end. -/
namespace Py
open PySem L2
open He (Fa DefD Tab)
theorem Ctx.eq {X : Cx} {W : WX} {k : Nat} (T : Ctx X W k) : OpR X (compareOp .Eq) (r2 X.K oeq) := y_eq (by have := T.hr.un; omega)
theorem Ctx.ne {X : Cx} {W : WX} {k : Nat} (T : Ctx X W k) : OpR X (compareOp .NotEq) (r2 X.K one) := y_ne (by have := T.hr.un; omega)
theorem hv_len : bootBuiltins "len" = some (.builtin "len") := by decide +kernel
theorem hv_sum : bootBuiltins "sum" = some (.builtin "sum") := by decide +kernel
theorem hv_all : bootBuiltins "all" = some (.builtin "all") := by decide +kernel
theorem hv_any : bootBuiltins "any" = some (.builtin "any") := by decide +kernel
theorem hv_min : bootBuiltins "min" = some (.builtin "min") := by decide +kernel
theorem hv_int : bootBuiltins "int" = some (.type "int") := by decide +kernel
theorem hv_tuple : bootBuiltins "tuple" = some (.type "tuple") := by decide +kernel
theorem hv_list : bootBuiltins "list" = some (.type "list") := by decide +kernel
theorem hv_bool : bootBuiltins "bool" = some (.type "bool") := by decide +kernel
theorem hv_str : bootBuiltins "str" = some (.type "str") := by decide +kernel
/-! ### the list objects left out -/
theorem klookup_mem {a : Addr} {o : Obj} : ∀ {l : List (Addr × Obj)}, l.lookup a = some o → (a, o) ∈ l
  | [], h => by cases h
  | (b, u) :: r, h => by
    rw [List.lookup_cons] at h
    split at h
    · rename_i e
      have e1 : a = b := by simpa using e
      cases h
      subst e1
      exact List.mem_cons_self
    · exact List.mem_cons_of_mem _ (klookup_mem h)
theorem sqL_rd {K : Frag} (h : noL K = true) {H : Hp} {a : Addr} {vs : List V} (q : SqL K H a vs) : Rd H a (.lst vs) := by
  rcases q with q | ⟨o, its, n, hk, hc, _⟩
  · exact q
  · have m := List.all_eq_true.mp h _ (klookup_mem hk)
    simp [notList, hc] at m
/-! ### facts -/
structure Facts (fa : List Fa) (fn : List DefD) (ts : List Tab) (ms : List (Frag → Bool)) (w : World) (K : Frag) (mg : Str → Option Value) : Prop where
  c : He.SaysT fa fn ts w K
  m : (noL K && ms.all fun m => m K) = true
  h : ∃ h : Heap, K.In h ∧ h.Ns mainGlobals mg
section
variable {fa : List Fa} {fn : List DefD} {ts : List Tab} {ms : List (Frag → Bool)} {w : World} {K : Frag} {mg : Str → Option Value}
theorem Facts.glo (Y : Facts fa fn ts ms w K mg) (i : Nat) {x : Str} (h : fa[i]? = some (.glo x) := by rfl) : mg x = some (.ref (He.ga K x)) := by
  obtain ⟨_, KX, G⟩ := Y.h
  exact He.glo_ok KX G (Y.c.d.fact i h)
theorem Facts.free (Y : Facts fa fn ts ms w K mg) (i : Nat) {x : Str} (h : fa[i]? = some (.free x) := by rfl) : mg x = none := by
  obtain ⟨_, KX, G⟩ := Y.h
  exact He.free_ok KX G (Y.c.d.fact i h)
theorem Facts.mkr (Y : Facts fa fn ts ms w K mg) (i : Nat) {x : String} (h : fa[i]? = some (.mkr (Str.ofString x)) := by rfl) : Mk K (ca K x) (He.ma K (ca K x) "__init__") := He.mkr_ok (Y.c.d.fact i h)
theorem Facts.def_ (Y : Facts fa fn ts ms w K mg) (i : Nat) {d : DefD} (h : fn[i]? = some d := by rfl) : ∃ fd, FunD K d.name d.qual d.params d.body d.scope (d.dvs K) (d.kws K) (He.fAd K d.at_) fd := Y.c.d.def_ i h
theorem Facts.more (Y : Facts fa fn ts ms w K mg) (i : Nat) {m : Frag → Bool} (h : ms[i]? = some m := by rfl) : m K = true := by
  have q := Y.m
  rw [Bool.and_eq_true] at q
  exact List.all_eq_true.mp q.2 m (List.mem_of_getElem? h)
theorem Facts.noL (Y : Facts fa fn ts ms w K mg) : noL K = true := by
  have q := Y.m
  rw [Bool.and_eq_true] at q
  exact q.1
theorem att_ok {cs : List String} {f : String} (h : attB cs f K = true) : ∀ c ∈ cs, Cls K (ca K c) ∧ NoAttr K (ca K c) (Str.ofString f) := fun c hc => by
  have q := List.all_eq_true.mp h c hc
  rw [Bool.and_eq_true] at q
  exact ⟨He.cls_ok q.1, He.noat_ok q.2⟩
theorem Facts.tab (Y : Facts fa fn ts ms w K mg) {x : String} {tab : List (String × Int)} (i j k : Nat) (h1 : ts[i]? = some (tabT x tab) := by rfl) (h2 : ms[j]? = some (tabB x tab) := by rfl) (h3 : fa[k]? = some (.glo (Str.ofString x)) := by rfl) : TabOk K w mg (Str.ofString x) tab := by
  refine tab_ok ?_ (Y.more j h2) (Y.glo k h3)
  have e : ts.map (fun t => He.dicW K (t.1 K)) = ts.map fun t => some (He.keysIn w.params t.2) := congrArg (fun z : He.AlT => z.2) Y.c
  have e2 : (ts.map fun t => He.dicW K (t.1 K))[i]? = (ts.map fun t => some (He.keysIn w.params t.2))[i]? := by rw [e]
  rw [List.getElem?_map, List.getElem?_map, h1] at e2
  exact Option.some.inj e2
end
/-! ### the law's def -/
section
variable {P : Program} {w : World} {K : Frag} {mg : Str → Option Value} {k : Nat} {ow oN oB : Ow} {m : SM} {qual : Str} {params : Arguments} {body : List Stmt} {scope : Scope} {f : Addr} {N : List Str} {n : Nat}
theorem law_ok (F : ∃ fd, FunD K "law" qual params body scope [] [] f fd) (S : FnScope N ["script"] scope) (hnl : N.length = n) (hp : ow 0 = false)
    (hbind : ∀ (kV doc pm : Value) (an : Option Addr) (cdv ct : Value) (us : List Value), us.length = 1 → bindArgs (PySem.W.fnOf "law" qual params body scope .none kV doc pm an cdv ct) ⟨us, []⟩ = pure ((["script"] : List Str).zip us))
    (hb : ∀ (base : Heap) (cdv : Value) (A : Around) (outer : List PySem.Env) (s : Shared) (H : Hp) (E : XK), Ctx (cxOf (L2N.CX P w) P w K mg base N qual scope f cdv A outer s H E) (WD E) k →
      PSs (cxOf (L2N.CX P w) P w K mg base N qual scope f cdv A outer s H E) body (tS3 .val K (WD E) ow oN oB m)) (hx : ow.x = none := by rfl) :
    ∃ fd : FuncData, (∀ (s : Shared) (u : Value), BindsTo s fd ⟨[u], []⟩ [("script", u)]) ∧ ∀ base : Heap, FnOk P w K mg base (L2N.CX P w) (k + 1) f fd ["script"] (spM K 1 (fn 1 n m)) := by
  obtain ⟨fd, F⟩ := F
  subst hnl
  have b := FunD.bindsA (ps := ["script"]) F hbind
  exact ⟨fd, fun s v => b s [v] rfl, fun base => fn_ok F S hx (fun i hi => by
    have : i = 0 := by simpa using hi
    subst this
    exact hp) (hb base)⟩
theorem ints_rep {K : Frag} {A : AS} {H : Hp} : ∀ ns : List Int, RepL K A H (ns.map D.int) (ns.map V.int)
  | [] => by simp [RepL]
  | n :: ns => by
    simp only [List.map_cons, RepL]
    exact ⟨_, _, rfl, rfl, ints_rep ns⟩
/-- what escapes nothing can be handed out -/
theorem cx_none {P : Program} {w : World} {H : Hp} {s : Shared} {e : Value} {s' : Shared} (h : L2N.CX P w [] H s (fun _ _ _ => False) e s') : False := by
  obtain ⟨a, B, H', cls, d, rfl, fl, hok, ub, na, os, ag, hE⟩ := h
  exact hE
open PyProof.Rows in
theorem walk_ofW {l : PySem.W.OpenLaw} {n k : Nat} {q : Program} {loose : List Str} {XP : (Str → Option Value) → Heap → Prop} {YP : World → Heap → Prop} {d : DefRec} {CX : World → CXT} {x : Str}
    (hn : l.most = some n) (hn2 : n ≤ sizeLine) (hdf : d.params.defaults = []) (hr : Room k callerA)
    (F : ∀ (w : World) (mg : Str → Option Value) (fa : Addr) (h : Heap), YP w h → h.Ns mainGlobals mg → mg d.name = some (.ref fa) →
      ∃ (K : PySem.W.Frag) (fd : FuncData) (sp : Sp), K.In h ∧ (∀ (s : Shared) (u : Value), BindsTo s fd ⟨[u], []⟩ [(x, u)]) ∧
        (∀ (H : Hp) (a : Addr) (ns : List Int), ns.length ≤ n → Only H → SqL K H a (ns.map V.int) → sp [.ref a] H (fun v _ => v = .bl true) fun _ _ _ => False) ∧
        ∀ base : Heap, K.In base → base.Ns mainGlobals mg → FnOk l.prog w K mg base (CX w) k fa fd [x] sp)
    (hCX : ∀ (w : World) (H : Hp) (s : Shared) (e : Value) (s' : Shared), CX w [] H s (fun _ _ _ => False) e s' → False) :
    PySem.W.WalkO q loose XP YP l.row.toRowW d [] (fun f vs => PySem.call f vs) := by
  refine Att.attach_call hn hdf fun w s₀ s₁ mg mb fa o pm cd doc a vs ns G Y ho hd hcd hmg hobj hints hlen hg => ?_
  obtain ⟨K, fd, sp, KX, hb, hsp, hF⟩ := F w mg fa _ Y G.T.g hmg
  exact law_call KX G.T.g G.T.b G.T.builtins G.T.nolimit hg hobj hints (Nat.le_trans hlen hn2) hr hF hb (fun H hO hS => hsp H a ns hlen hO hS) fun H e s' => hCX w H s₁ e s'
end
end Py
/-! Methods of own classes, zip, constants of the module, |=. -/
namespace Py
open PySem L2
open He (Fa DefD Tab)
/-! ### methods -/
section
variable {fa : List Fa} {fn : List DefD} {ts : List Tab} {ms : List (Frag → Bool)} {w : World} {K : Frag} {mg : Str → Option Value}
theorem Facts.cls (Y : Facts fa fn ts ms w K mg) (i : Nat) {x : String} (h : fa[i]? = some (.cls (Str.ofString x)) := by rfl) : Cls K (ca K x) := He.cls_ok (Y.c.d.fact i h)
theorem Facts.int (Y : Facts fa fn ts ms w K mg) (i : Nat) {x : Str} {z : Int} (h : fa[i]? = some (.int x z) := by rfl) : ∃ t, mg x = some (.int z t) := by
  obtain ⟨_, KX, G⟩ := Y.h
  exact He.int_ok KX G (Y.c.d.fact i h)
theorem Facts.str (Y : Facts fa fn ts ms w K mg) (i : Nat) {x z : Str} (h : fa[i]? = some (.str x z) := by rfl) : ∃ t, mg x = some (.str z t) := by
  obtain ⟨_, KX, G⟩ := Y.h
  exact He.str_ok KX G (Y.c.d.fact i h)
theorem dv_rep {A : AS} {H : Hp} {d : D} (h : flatD d = true) : Rep K A H d (((dvOf d).getD .non).v K) := by
  cases d <;> first | rfl | cases h
theorem dvs_rep {A : AS} {H : Hp} : ∀ {ds : List D}, ds.all flatD = true → RepL K A H ds ((dvsOf ds).map (He.Dv.v K))
  | [], _ => by simp [RepL, dvsOf]
  | d :: ds, h => by
    simp only [List.all_cons, Bool.and_eq_true] at h
    simp only [dvsOf, List.map_cons, RepL]
    exact ⟨_, _, rfl, dv_rep h.1, dvs_rep h.2⟩
end
section
variable {X : Cx} {W : WX} {ow : Ow} {x : Str} {pos : Pos}
theorem x_gtup {y : String} {ds : List D} (hy : x = Str.ofString y) (hg : Gl X x) (hm : X.mg x = some (.ref (He.ga X.K x))) (hc : tupC y ds X.K = true) (hf : ds.all flatD = true) (hd : (x == ("__debug__" : Str)) = false := by decide) : PE X (.Name x pos) (tE X.K W ow (cst (.tup ds))) := by
  subst hy
  refine PE.of (pe_glob (v := .ref (He.ga X.K (Str.ofString y))) hg hm rfl hd) fun σ H Q ⟨A, H0, O, en, R, q⟩ => ?_
  refine q _ H (Same.refl H) ?_
  simp only [Rep]
  exact ⟨_, _, rfl, He.tupB_ok hc H, dvs_rep hf⟩
end
/-! ### another name of a def -/
/-! ### zip -/
/-! ### x |= y -/
section
variable {X : Cx}
theorem ip_or : PIp X .BitOr (ipI fun i j => Builtin.bitOr i j) := by
  intro pins s σ H x y v u Q I r1 r2 h
  obtain ⟨i, j, e1, e2, q⟩ := h
  subst e1; subst e2
  obtain ⟨t, rfl⟩ := r1
  obtain ⟨t', rfl⟩ := r2
  exact PyProof.Rows.ior_int ⟨.int _, H, I.tok _, ⟨_, rfl⟩, q⟩
end
theorem h_ior {K : Frag} : ∀ x y H Q, r2 K oior x y H Q → ipI (fun i j => Builtin.bitOr i j) x y H Q := fun x y H Q ⟨A, d1, d2, d, h1, h2, _, e, k⟩ => by
  cases d1 <;> cases d2 <;> simp only [oior, Res.ok.injEq, reduceCtorEq] at e
  subst e
  exact ⟨_, _, h1, h2, k _ H (Same.refl H) (flat_rep (d := .int _) rfl _ _)⟩
theorem n_ior : NoEx2 oior := fun x y c fs => by cases x <;> cases y <;> rfl
end Py
namespace Py
open PySem PySem.Spec PyProof.Rows L2
/-! ### zip over any two of lists and tuples: k = true: a tuple -/
def IAt (k : Bool) (h : Heap) (it l : Addr) (i : Nat) : Prop := match k with | true => h.IsTupleIter it l i | false => h.IsListIter it l i
def SAt (k : Bool) (h : Heap) (l : Addr) (xs : Array Value) : Prop := match k with | true => h.IsTuple l xs | false => h.IsList l xs
def icls (k : Bool) : String := match k with | true => "tuple_iterator" | false => "list_iterator"
theorem IAt.up {k : Bool} {h h' : Heap} {it l : Addr} {i : Nat} (x : IAt k h it l i) (e : ∀ o, h.get? it = some o → h'.get? it = some o) : IAt k h' it l i := by
  cases k with
  | true => exact Heap.IsTupleIter.at x e
  | false => exact Heap.IsListIter.at x e
theorem SAt.up {k : Bool} {h h' : Heap} {l : Addr} {xs : Array Value} (x : SAt k h l xs) (e : ∀ o, h.get? l = some o → h'.get? l = some o) : SAt k h' l xs := by
  cases k with
  | true => obtain ⟨o, ho, r⟩ := x; exact ⟨o, e _ ho, r⟩
  | false => obtain ⟨o, ho, r⟩ := x; exact ⟨o, e _ ho, r⟩
theorem IAt.some {k : Bool} {h : Heap} {it l : Addr} {i : Nat} (x : IAt k h it l i) : ∃ o, h.get? it = some o ∧ ∀ v, o.data ≠ .cell v := by
  cases k with
  | true => obtain ⟨o, ho, _, d⟩ := x; exact ⟨o, ho, fun v q => by rw [d] at q; cases q⟩
  | false => obtain ⟨o, ho, _, d⟩ := x; exact ⟨o, ho, fun v q => by rw [d] at q; cases q⟩
section
variable {prog : Program} {w : World} {A : Around} {E : Value → Shared → Prop} {s : Shared}
theorem draw1 {k : Bool} {it l : Addr} {i : Nat} {xs : Array Value} {x : Value} {Q : Value → Shared → Prop} (a : IAt k s.heap it l i) (b : SAt k s.heap l xs) (hx : xs[i]? = some x)
    (q : ∀ h', IAt k h' it l (i + 1) → Heap.SameBut it s.heap h' → Q x { s with heap := h' }) : wpAny (model prog w) A (Builtin.SmallTypes.nextOf (.ref it)) Q E s := by
  cases k with
  | true => exact RZ.nextOf_tuple_item a b hx q
  | false => exact wpAny_nextOf_list_item a b hx q
theorem draw0 {k : Bool} {it l : Addr} {i : Nat} {xs : Array Value} {Q : Value → Shared → Prop} (hh : A.handled = none) (a : IAt k s.heap it l i) (b : SAt k s.heap l xs) (hx : xs[i]? = none)
    (q : ∀ h' e, Heap.ExtBut it s.heap h' → (∃ o, h'.get? e = some o ∧ o.cls = .type "StopIteration") → E (.ref e) { s with heap := h' }) : wpAny (model prog w) A (Builtin.SmallTypes.nextOf (.ref it)) Q E s := by
  cases k with
  | true => exact RZ.nextOf_tuple_end hh a b hx q
  | false => exact wpAny_nextOf_list_end hh a b hx q
theorem bfield {α : Type} {a : Addr} {o : Obj} {vs : Array Value} {n : Nat} {x : Value} {f : Value → Sem α} {Q : α → Shared → Prop} (ho : s.heap.get? a = some o) (hd : o.data = .fields vs) (hi : vs[n]? = some x) (h : wpAny (model prog w) A (f x) Q E s) : wpAny (model prog w) A (field (.ref a) n >>= f) Q E s := wpAny_bind (wpAny_field ho hd hi h)
theorem iter_new {k : Bool} {l : Addr} {xs : Array Value} {Q : Value → Shared → Prop} (q : SAt k s.heap l xs) (h : Q (.ref s.heap.objs.size) { s with heap := s.heap.push { cls := .type (icls k), data := .fields #[.ref l, .int 0 0] } }) : wpAny (model prog w) A (pyIter (.ref l)) Q E s := by
  cases k with
  | true => exact wpAny_pyIter_tuple q h
  | false => exact wpAny_pyIter_list q h
end
abbrev zi (k : Bool) (l : Addr) : Obj := { cls := .type (icls k), data := .fields #[.ref l, .int 0 0] }
/-! the turn -/
def SqK (k : Bool) (K : Frag) (H : Hp) (a : Addr) (xs : List V) : Prop := match k with | true => SqT K H a xs | false => SqL K H a xs
theorem SqK.at {k : Bool} {X : Cx} {pins : List (Addr × Obj)} {σ : L2.St} {H : Hp} {s : Shared} {a : Addr} {xs : List V} (I : Inv X pins σ H s) (q : SqK k X.K H a xs) : ∃ its, Vals xs its ∧ SAt k s.heap a its.toArray ∧ a < s.heap.objs.size := by
  cases k with
  | true =>
    obtain ⟨its, r, p, _⟩ := I.tuple q
    obtain ⟨o, ho, _⟩ := id p
    exact ⟨its, r, p, Heap.lt_size ho⟩
  | false =>
    obtain ⟨its, r, p, _⟩ := I.list q
    exact ⟨its, r, p.isList, p.lt⟩
theorem SqK.inj {k : Bool} {X : Cx} {pins : List (Addr × Obj)} {σ : L2.St} {H : Hp} {s : Shared} {a : Addr} {xs ys : List V} (I : Inv X pins σ H s) (q : SqK k X.K H a xs) (q' : SqK k X.K H a ys) : xs = ys := by
  cases k with
  | true => exact I.tuple_inj q q'
  | false => exact I.list_inj q q'
/-! ### zip in the mirror -/
theorem rep_sq {K : Frag} {A : AS} {O : OW} {H : Hp} {d : D} {v : V} {k : Bool} {ds : List D} (e : seqOf d = some (k, ds)) (r : Rep K (AO A O) H d v) : ∃ a vs, v = .ref a ∧ (∀ A2 H2, Mv (AO A O) H A2 H2 → SqK k K H2 a vs) ∧ RepL K (AO A O) H ds vs := by
  cases d with
  | lst xs =>
    cases e
    obtain ⟨x, vs, rfl, n, h, r⟩ := (by simpa only [Rep] using r : ∃ a vs, v = .ref a ∧ ¬ AO A O a ∧ Rd H a (.lst vs) ∧ RepL K (AO A O) H ds vs)
    exact ⟨x, vs, rfl, fun A2 H2 m => .inl (Rd.move m h n).1, r⟩
  | tup xs =>
    cases e
    obtain ⟨x, vs, rfl, h, r⟩ := (by simpa only [Rep] using r : ∃ a vs, v = .ref a ∧ SqT K H a vs ∧ RepL K (AO A O) H ds vs)
    exact ⟨x, vs, rfl, fun A2 H2 m => SqT.move m h, r⟩
  | _ => cases e
end Py
/-! Who owns what, statement by statement. -/
namespace Py
open PySem L2
/-- the names that own what they hold -/
def ownS : List Nat → Nat → Bool
  | [], _ => false
  | j :: l, i => i == j || ownS l i
theorem owS_mem : ∀ {l : List Nat} {i : Nat}, ownS l i = true → i ∈ l
  | j :: l, i, h => by
    unfold ownS at h
    rw [Bool.or_eq_true] at h
    rcases h with h | h
    · exact List.mem_cons.mpr (.inl (by simpa using h))
    · exact List.mem_cons_of_mem _ (owS_mem h)
theorem owS_le {l l' : List Nat} (h : (l'.all fun i => ownS l i) = true) : ∀ i, ownS l' i = true → ownS l i = true := fun i hi => List.all_eq_true.mp h i (owS_mem hi)
theorem owS_add {l l' : List Nat} {i : Nat} (h : (l'.all fun j => j == i || ownS l j) = true ∧ ownS l' i = true ∧ (l.all fun j => ownS l' j) = true) : ∀ j, ownS l' j = (j == i || ownS l j) := fun j => by
  obtain ⟨h1, h2, h3⟩ := h
  cases e : ownS l' j with
  | true => exact (List.all_eq_true.mp h1 j (owS_mem e)).symm
  | false =>
    cases e2 : (j == i || ownS l j) with
    | false => rfl
    | true =>
      rw [Bool.or_eq_true] at e2
      rcases e2 with e2 | e2
      · rw [show j = i by simpa using e2, h2] at e
        cases e
      · rw [List.all_eq_true.mp h3 j (owS_mem e2)] at e
        cases e
abbrev owS (l : List Nat) : Ow := ⟨ownS l, none⟩
/-- .. while an error is held -/
abbrev Ow.hold (o : Ow) (i : Nat) (a da : Addr) (fs : List (String × D)) : Ow := ⟨fun j => j == i || o j, some ⟨i, a, da, fs⟩⟩
/-- the new owners know no more of an error -/
def XLe (o1 o : Ow) : Prop := o1.x = none ∨ (o1.x = o.x ∧ ∀ q, o1.x = some q → o q.i = true → o1 q.i = true)
theorem XLe.refl {o : Ow} : XLe o o := .inr ⟨rfl, fun _ _ z => z⟩
theorem XFact.cut {K : Frag} {A : AS} {H : Hp} {σ : L2.St} {e : Env} {o o1 : Ow} (h : XFact K A H σ e o) (l : XLe o1 o) : XFact K A H σ e o1 := fun q hq => by
  rcases l with l | ⟨l1, l2⟩
  · rw [l] at hq
    cases hq
  · obtain ⟨h1, h2, h3, h4⟩ := h q (l1 ▸ hq)
    exact ⟨l2 q hq h1, h2, h3, h4⟩
section
variable {fr : Rm} {K : Frag} {A : AS} {H0 : Base} {ow o1 oN oB : Ow} {O : OW} {σ : L2.St} {H H' : Hp} {e : Env}
def cutO (ow o1 : Ow) (O : OW) : OW := fun i => if ow i = true ∧ o1 i = false then none else O i
theorem cutO_some {i : Nat} {a : Addr} (h : cutO ow o1 O i = some a) : O i = some a := by
  unfold cutO at h
  split at h
  · cases h
  · exact h
theorem cut_less : ∀ a, AO A (cutO ow o1 O) a → AO A O a := fun a h => h.elim .inl fun ⟨i, q⟩ => .inr ⟨i, cutO_some q⟩
/-- some names give up what they own -/
theorem ER.part (R : ER K A H0 ow O σ H e) (h : ∀ i, o1 i = true → ow i = true) (h0 : ow 0 = true → o1 0 = true) (hx : XLe o1 ow) : ER K A H0 o1 (cutO ow o1 O) σ H e := by
  have mv : Mv (AO A O) H (AO A (cutO ow o1 O)) H := Mv.less cut_less
  have stay : ∀ i, o1 i = true → cutO ow o1 O i = O i := fun i hi => by
    unfold cutO
    rw [if_neg]
    rintro ⟨_, z⟩
    rw [hi] at z
    cases z
  refine ⟨R.len, R.a0, R.same, fun i d h1 h2 => ?_, fun i d h1 h2 => ?_, fun i a q => R.fresh i a (cutO_some q), fun i j a q q' => R.inj i j a (cutO_some q) (cutO_some q'), fun a q => ?_, (R.exq.heap mv fun _ _ e => e).cut hx⟩
  · cases hi : ow i with
    | false =>
      obtain ⟨v, q, r⟩ := R.vals i d h1 hi
      exact ⟨v, q, Rep.move mv _ _ r⟩
    | true =>
      obtain ⟨a, q, q2, r⟩ := R.owns i d h1 hi
      refine ⟨.ref a, q2, ?_⟩
      have na : ¬ AO A (cutO ow o1 O) a := by
        rintro (z | ⟨j, z⟩)
        · exact (R.fresh i a q).2.2 z
        · have e1 := R.inj i j a q (cutO_some z)
          subst e1
          unfold cutO at z
          rw [if_pos ⟨hi, h2⟩] at z
          cases z
      exact r.rep mv na
  · obtain ⟨a, q, q2, r⟩ := R.owns i d h1 (h i h2)
    exact ⟨a, (stay i h2).trans q, q2, r.move mv rfl⟩
  · have q0 := R.pin a q
    unfold cutO
    rw [if_neg]
    · exact q0
    · rintro ⟨z1, z2⟩
      rw [h0 z1] at z2
      cases z2
/-- a name is to own what comes next -/
theorem ER.opens (R : ER K A H0 ow O σ H e) {i : Nat} (hi : ow i = false) (hN : ∀ j, oN j = (j == i || ow j)) (hx : XLe oN ow) : ER K A H0 oN O σ H (e.set i none) := by
  have other : ∀ j d, (e.set i none)[j]? = some (some d) → i ≠ j ∧ e[j]? = some (some d) := fun j d h => by
    by_cases hj : i = j
    · subst hj
      have hl : i < e.length := by
        have := (List.getElem?_eq_some_iff.mp h).1
        simpa using this
      rw [List.getElem?_set_self hl] at h
      cases h
    · rw [List.getElem?_set_ne hj] at h
      exact ⟨hj, h⟩
  refine ⟨by simp [R.len], R.a0, R.same, fun j d h1 h2 => ?_, fun j d h1 h2 => ?_, R.fresh, R.inj, R.pin, (R.exq.move Mv.refl (fun _ _ e => e) fun j hj n => ?_).cut hx⟩
  rotate_right
  · have hne : i ≠ j := fun z => by
      rw [z, hj] at hi
      cases hi
    rw [List.getElem?_set_ne hne]
    exact ⟨rfl, n⟩
  · obtain ⟨hj, h3⟩ := other j d h1
    rw [hN, show (j == i) = false by simpa using fun z => hj z.symm, Bool.false_or] at h2
    exact R.vals j d h3 h2
  · obtain ⟨hj, h3⟩ := other j d h1
    rw [hN, show (j == i) = false by simpa using fun z => hj z.symm, Bool.false_or] at h2
    exact R.owns j d h3 h2
theorem EndOk3.le {o1 oB1 : Ow} {D : Ends} (hN : ∀ i, oN i = true → o1 i = true) (hN0 : o1 0 = true → oN 0 = true) (hB : ∀ i, oB i = true → oB1 i = true) (hB0 : oB1 0 = true → oB 0 = true) (hNx : XLe oN o1) (hBx : XLe oB oB1) : ∀ {f : Fl}, EndOk3 fr K A H0 oN oB O H D f → EndOk3 fr K A H0 o1 oB1 O H D f
  | .next _, h => fun O' σ' H' R n => h _ σ' H' (R.part hN hN0 hNx) (n.trans (Mv.less cut_less))
  | .ret _, h => h
  | .brk _, h => fun O' σ' H' R n => h _ σ' H' (R.part hB hB0 hBx) (n.trans (Mv.less cut_less))
  | .cnt _, h => fun O' σ' H' R n => h _ σ' H' (R.part hB hB0 hBx) (n.trans (Mv.less cut_less))
end
section
variable {fr : Rm} {X : Cx} {W : WX} {ow o1 oN oB : Ow} {a b c e : Expr} {es : List Expr} {m ma mb mc : EM} {st : Stmt} {rest body orelse : List Stmt} {u v : SM} {t : TM} {pos : Pos} {j : Nat}
/-- a statement that changes no owner -/
theorem s_up (h : PS X st (tS fr X.K W ow u)) (hB : ∀ i, oB i = true → ow i = true) (hB0 : ow 0 = true → oB 0 = true) (hx : XLe oB ow := by first | exact Or.inl rfl | exact XLe.refl | exact Or.inr ⟨rfl, by intro q z; cases z; intro _; rfl⟩) : PS X st (tS3 fr X.K W ow ow oB u) :=
  PS.of h fun D σ H ⟨A, H0, O, en, R, q⟩ => ⟨A, H0, O, en, R, q.good fun f q1 => q1.le (fun _ z => z) (fun z => z) hB hB0 XLe.refl hx⟩
theorem c_nil : PSs X [] (tS3 fr X.K W ow ow oB skip) := PSs.of pss_nil fun D σ H ⟨A, H0, O, en, R, q⟩ => q O σ H R Mv.refl
theorem c_one (h : PS X st (tS3 fr X.K W ow oN oB u)) : PSs X [st] (tS3 fr X.K W ow oN oB u) := pss_one h
theorem c_cons (h : PS X st (tS3 fr X.K W ow o1 oB u)) (k : PSs X rest (tS3 fr X.K W o1 oN oB v)) : PSs X (st :: rest) (tS3 fr X.K W ow oN oB (seq u v)) :=
  PSs.of (pss_cons h k) fun D σ H ⟨A, H0, O, en, R, q⟩ => ⟨A, H0, O, en, R, (Out.bind q).good fun f q1 => by
    cases f with
    | next e' => exact fun O' σ' H' R' mv => ⟨A, H0, O', e', R', q1.good fun f q2 => q2.to mv⟩
    | ret d => exact q1
    | brk e' => exact q1
    | cnt e' => exact q1⟩
/-- names give up what they own -/
theorem c_cut (h : PSs X rest (tS3 fr X.K W o1 oN oB v)) (h1 : ∀ i, o1 i = true → ow i = true) (h0 : ow 0 = true → o1 0 = true) (hx : XLe o1 ow := by first | exact Or.inl rfl | exact XLe.refl | exact Or.inr ⟨rfl, by intro q z; cases z; intro _; rfl⟩) : PSs X rest (tS3 fr X.K W ow oN oB v) :=
  PSs.of h fun D σ H ⟨A, H0, O, en, R, q⟩ => ⟨A, H0, _, en, R.part h1 h0 hx, q.good fun f q1 => q1.to (Mv.less cut_less)⟩
/-- a name gets a new object of its own -/
theorem c_own {i : Nat} (h : PS X st (tAsg (tF X.K W ow m) (gName i))) (hi : ow i = false) (hN : ∀ j, oN j = (j == i || ow j)) (h0 : 0 < i := by decide) (hx : XLe oN ow := by first | exact Or.inl rfl | exact XLe.refl | exact Or.inr ⟨rfl, by intro q z; cases z; intro _; rfl⟩) : PS X st (tS3 fr X.K W ow oN oB (asg (gnm i) m)) :=
  PS.of h fun D σ H ⟨A, H0, O, en, R, q⟩ => ⟨A, H0, O, en, R, ((Out.bind q).se R).good fun d q1 a H1 n s1 r1 => by
    have hNi : oN i = true := by rw [hN]; simp
    have hxi : ∀ q, oN.x = some q → q.i ≠ i := fun q hq z => by
      rcases hx with hx | ⟨hx, _⟩
      · rw [hx] at hq
        cases hq
      · have z2 := (R.exq q (hx ▸ hq)).own
        rw [z, hi] at z2
        cases z2
    obtain ⟨R2, mv⟩ := (R.opens hi hN hx).take s1 hxi hNi h0 n r1
    rw [List.set_set] at R2
    exact q1 _ _ H1 R2 mv⟩
theorem c_if (hc : PT X a (tT X.K W ow t)) (hb : PSs X body (tS3 fr X.K W ow oN oB u)) (ho : PSs X orelse (tS3 fr X.K W ow oN oB v)) : PS X (.If a body orelse pos) (tS3 fr X.K W ow oN oB (ite t u v)) :=
  PS.of (ps_if hc hb ho) fun D σ H ⟨A, H0, O, en, R, q⟩ => ⟨A, H0, O, en, R, ((Out.bind q).se R).good fun k q1 H1 s1 => by
    cases k with
    | true =>
      rw [if_pos rfl] at q1 ⊢
      exact ⟨A, H0, O, en, R.to s1, q1.good fun f q2 => q2.to (Mv.same s1)⟩
    | false =>
      rw [if_neg (by decide)] at q1 ⊢
      exact ⟨A, H0, O, en, R.to s1, q1.good fun f q2 => q2.to (Mv.same s1)⟩⟩
end
end Py
/-! Defs that give back a new list: their caller owns it. -/
namespace Py
open PySem L2
def spF (K : Frag) (p : Nat) (m : List D → Res D) : Sp := fun vs H Q E => ∃ A ds, RepL K A H ds vs ∧ ds.length = p ∧ (∀ a, A a → H a ≠ none) ∧
  Out (m ds) (fun d => (d = .non → ∀ H', Same H H' → Q .non H') ∧ ∀ a H', H a = none → Same H H' → OwnAt K (fun b => A b ∨ b = a) H' a d → Q (.ref a) H') (fun c fs => ∀ da H' fvs, Same H H' → H' da = some (.xd fvs) → RepF K A H' fs fvs → E (.ref (ca K c)) (some da) H')
theorem spF_le {K : Frag} {p : Nat} {m : List D → Res D} {vs : List V} {H : Hp} {Q : VK} {E : XK} (h : spM K p m vs H Q E) : spF K p m vs H Q E := by
  obtain ⟨A, ds, r, hl, ha, q⟩ := h
  refine ⟨A, ds, r, hl, ha, q.good fun d k => ⟨fun e H' s => ?_, fun a H' n s o => k (.ref a) H' s ?_⟩⟩
  · subst e
    exact k .non H' s rfl
  · have na : ¬ A a := fun z => ha a z n
    have mv : Mv (fun b => A b ∨ b = a) H' A H' := Mv.less fun b x => .inl x
    exact o.rep mv na
/-- the name x calls a def that gives back a new list -/
def CallF (P : Program) (w : World) (K : Frag) (mg : Str → Option Value) (base : Heap) (k : Nat) (x : Str) (d : He.DefD) (ps : List Str) (n : Nat) (fm : List D → Res D) : Prop := ∃ f fd, mg x = some (.ref f) ∧ PySem.W.keepIn K (.ref f) = true ∧ Binds K fd ps [] ∧ FnOk P w K mg base (L2N.CX P w) k f fd ps (spF K n fm) ∧ Ar n fm ∧ FunD K d.name d.qual d.params d.body d.scope [] [] f fd
theorem CallF.le {P : Program} {w : World} {K : Frag} {mg : Str → Option Value} {base : Heap} {k : Nat} {x : Str} {d : He.DefD} {ps : List Str} {n : Nat} {fm : List D → Res D} (C : CallF P w K mg base k x d ps n fm) : CallOk P w K mg base k x d ps n fm := by
  obtain ⟨f, fd, h1, h2, h3, h4, h5⟩ := C
  exact ⟨f, fd, h1, h2, h3, h4.imp fun _ _ _ _ z => spF_le z, h5⟩
end Py
/-! More expressions. -/
namespace Py
open PySem L2
theorem RepL.flat {K : Frag} {A : AS} {H : Hp} {ds : List D} {vs : List V} (h : RepL K A H ds vs) : ∀ n : Nat, RepL K A H (List.replicate n ds).flatten (List.replicate n vs).flatten
  | 0 => by simp [RepL]
  | n + 1 => by
    rw [List.replicate_succ, List.replicate_succ, List.flatten_cons, List.flatten_cons]
    exact h.append (RepL.flat h n)
section
variable {X : Cx} {W : WX} {ow : Ow} {a b : Expr} {ma mb : EM} {pos : Pos}
/-- [..] * n -/
theorem f_rep (ha : PE X a (tF X.K W ow ma)) (hb : PE X b (tW X.K W ow mb)) : PE X (.BinOp a .Mult b pos) (tF X.K W ow (bin olrep ma mb)) :=
  PE.of (pe_op op_rep ha hb) fun σ H Q ⟨A, H0, O, en, R, q⟩ => by
    refine ⟨A, H0, O, en, R, (Out.bind q).good fun d1 q1 l H1 n1 s1 r1 => ?_⟩
    refine ⟨A, H0, O, en, R.to s1, ((Out.bind q1).to s1).good fun d2 q2 v2 H2 s2 r2 => ?_⟩
    cases d1 with
    | lst xs =>
      cases d2 with
      | int k =>
        obtain ⟨vs, e1, p1⟩ := r1
        have e2 : v2 = .int k := rep_int r2
        subst e2
        by_cases hc : xs.length ≤ 1000 ∧ k.natAbs ≤ 10000
        · have e3 : olrep (.lst xs) (.int k) = .ok (.lst (List.replicate k.toNat xs).flatten) := if_pos hc
          rw [e3] at q2
          have q3 := q2
          have hl := p1.length
          refine ⟨l, k, vs, rfl, rfl, s2 _ _ e1, by omega, by omega, ?_, fun p hp => ?_⟩
          · have : vs.length * k.toNat ≤ 1000 * 10000 := Nat.mul_le_mul (by omega) (by omega)
            exact Nat.le_trans this (by decide)
          · have s12 := s1.trans s2
            have np1 : H1 p = none := by
              cases z : H1 p with
              | none => rfl
              | some o =>
                rw [s2 p o z] at hp
                cases hp
            have np : H p = none := by
              cases z : H p with
              | none => rfl
              | some o =>
                rw [s12 p o z] at hp
                cases hp
            have s3 : Same H2 (upd H2 p (.lst (List.replicate k.toNat vs).flatten)) := new_same hp
            refine q3 p _ np (s12.trans s3) ⟨_, upd_same, RepL.move ⟨fun b hb => ?_, fun b o e hb => (s2.trans s3) b o e⟩ _ _ (p1.flat k.toNat)⟩
            rcases hb with hb | hb
            · exact .inl (.inl hb)
            · rw [hb]
              exact .inr np1
        · have e3 : olrep (.lst xs) (.int k) = .stuck := if_neg hc
          rw [e3] at q2
          exact q2.elim
      | _ => exact (q2 : False).elim
    | _ => exact (show False from q2).elim
end
end Py
/-! The __init__ of an own exception: super().__init__(..), then its fields. -/
namespace Py
open PySem L2 PyProof.Rows
/-- an exception's __init__ that keeps what it is given, under these names -/
def spX (C : Addr) (n : Nat) (fs : List Str) : Sp := fun vs H Q E => ∃ a H1 ws, vs = .ref a :: ws ∧ H = upd H1 a (exo a C none) ∧ H1 a = none ∧ ws.length = n ∧
  ∀ d H2, H2 a = some (exo a C (some d)) → H2 d = some (exd d (fs.zip ws).reverse) → H1 d = none → d ≠ a → (∀ b, b ≠ a → b ≠ d → H2 b = H1 b) → Q .non H2
/-- what the written part tells of the class C whose __init__ is f -/
structure XIn (P : Program) (K : Frag) (C f cc cda : Addr) (nm qual : Str) (params : Arguments) (body : List Stmt) (scope : Scope) (fd : FuncData) : Prop where
  fn : ∃ (oc : Value) (od : Option Addr) (dV kV doc pm : Value) (an : Option Addr) (ct : Value) (osl : Array (Option Value)),
    fd = PySem.W.ksFn nm qual params body scope dV kV doc pm an (.ref cda) ct cc ∧ K.lookup f = some ⟨oc, od, .func fd, osl⟩
  cd : PySem.W.codeIn K (.ref cda) qual = true
  fl : ∃ (ccl : Value) (cdd : Option Addr) (vs : Array Value) (ccs : Array (Option Value)) (file : Str) (tf : Tok), K.lookup cda = some ⟨ccl, cdd, .fields vs, ccs⟩ ∧ vs[2]? = some (.str file tf) ∧ ((P.main.file : Str) == file) = true
  cell : ∃ (cl : Value) (cld : Option Addr) (csl : Array (Option Value)), K.lookup cc = some ⟨cl, cld, .cell (some (.ref C)), csl⟩
  T : OexC K C
  sup : PySem.W.ks_superIn K C C "__init__" = some (some (.builtin "ValueError.__init__"))
  ve : PySem.W.subIn K (.ref C) (.type "ValueError") = some true
  me : PySem.W.mroIn K C (.ref C) = some true
  thi : PySem.W.nsIn K cStatics "thirdparty.any" = some none
theorem oexC_cd {K : Frag} {C : Addr} (T : OexC K C) : ∃ (cd : ClassData) (dd : Option Addr) (sl : Array (Option Value)), PySem.W.clsIn K C = some cd ∧ K.lookup C = some ⟨.type "type", dd, .cls cd, sl⟩ := by
  obtain ⟨nm, q, N, bs, bm, sn, sub, ab, col, dd, k0, k1, k2, k3, k5, hC, hbm⟩ := T.cls
  exact ⟨_, dd, _, by unfold PySem.W.clsIn; rw [hC] <;> rfl, hC⟩
theorem hv_super : bootBuiltins "super" = some (.type "super") := by decide +kernel
section
variable {P : Program} {w : World} {K : Frag} {mg : Str → Option Value} {base : Heap} {C f cc cda : Addr} {nm qual self txt : Str} {params : Arguments} {body rest : List Stmt} {scope : Scope} {fd : FuncData} {N ps fs : List Str} {k : Nat} {ar : Arg}
theorem callWith_kxs {M : Model} {A : Around} {E : Value → Shared → Prop} {s : Shared} {i : String} {u x : Addr} {pos : Pos} {env : PySem.Env} {e : Expr} {es : List Expr} {Q : Value → Shared → Prop}
    (h : wpAny M A (spliced (backTo pos (starEach (e :: es) env))) (fun vs s₁ => PySem.W.KxsAt i u x s₁.heap ∧ wpAny M A (PySem.call (.ref u) vs) Q E s₁) E s)
    (he : starEach (e :: es) env = (false, eval e env) :: starEach es env := by rfl) (hplain : (backTo pos (starEach es env)).any (·.1) = false := by rfl) :
    wpAny M A (callWith pos (.ref u) [] (backTo pos (starEach (e :: es) env)) []) Q E s := by
  rw [he] at h ⊢
  refine PySem.W.kxs_callWith (i := i) (x := x) (by show (false || (backTo pos (starEach es env)).any (·.1)) = false; rw [hplain]; rfl) ?_
  exact PySem.Calls.evalArgs_plain h
/-- super().__init__(..) called: the object keeps its shape -/
theorem kxs_done {X : Cx} {pins : List (Addr × Obj)} {σ : L2.St} {H : Hp} {s : Shared} {A : Around} {E : Value → Shared → Prop} {u a C : Addr} {us : List Value} {Q : Value → Shared → Prop} (T : OexC X.K C) (I : Inv X pins σ H s) (e : H a = some (exo a C none)) (hu : s.heap.get? u = some (PySem.W.kxs_mw "ValueError.__init__" a))
    (hl : us.length ≤ sizeLine) (h : ∀ s', Inv X pins σ H s' → Q .none s') : wpAny (model X.prog X.w) A (PySem.call (.ref u) us) Q E s := by
  obtain ⟨nm, q, N, bs, bm, sn, sub, ab, col, dd, k0, k1, k2, k3, k5, hC, hbm⟩ := T.cls
  obtain ⟨t1, ho⟩ := exo_at I.hok e
  have hCh := I.kIn _ _ hC
  obtain ⟨hp, g, d, t, os⟩ := s
  refine wpAny_call (codeAny_of_tree ?_)
  show wpAny _ A.in1 (callAny (.ref u) ⟨us, []⟩) _ _ _
  simp only [callAny]
  refine wpAny_bind (wpAny_load hu ?_)
  simp only [PySem.W.kxs_mw, show (Value.type "method-wrapper" == Value.type "method" || Value.type "method-wrapper" == Value.type "builtin_function_or_method" || Value.type "method-wrapper" == Value.type "method-wrapper") = true by decide, if_true]
  refine PySem.W.KFB.if_so (by decide) ?_
  refine wpAny_bind (PySem.W.check_bound_init PySem.F.excBase_ValueError.toExcCallFacts hCh ho rfl ?_)
  refine wpAny_bind (wpAny_pure (wpAny_pure ?_))
  refine ⟨plainId_quiet PySem.F.excBase_ValueError.init.plain _, codeAny_builtin PySem.F.excBase_ValueError.initEntry ?_⟩
  refine PySem.W.exc_init_tree (cls := .ref C) (t0 := t1) (dv := none) (c2 := .none) (c3 := .none) (b4 := .bool false) ho hl fun h' kp hx ht => ?_
  have J := I.write (t' := t) (x := a) (e := a) (o := exo a C none) (by rw [e]; exact True.intro) (.inl rfl) kp ⟨_, hx⟩ (exo_ok hx)
  have eu : upd H a (exo a C none) = H := by
    funext b
    by_cases hb : b = a
    · rw [hb, upd_same, e]
    · rw [upd_ne hb]
  rw [eu] at J
  exact h _ J
theorem xinit_ok {n : Nat} (XI : XIn P K C f cc cda nm qual params body scope fd) (hps : ps = self :: fs) (hlen : fs.length = n) (S : NdefX.NScope N ps ["__class__"] scope) (har : (params.posonlyargs ++ params.args).head? = some ar) (hself : ar.arg = self)
    (hmg : mg "super" = none) (hsk : scope.names.lookup ("super" : Str) = some .globalImplicit) (htop : (P.main.scope.names.lookup ("super" : Str)).isSome = false)
    {p0 p1 p2 p3 p4 p5 : Pos} {j : Nat}
    (hbody : body = .Expr (.Call (.Attribute (.Call (.Name "super" p0) [] [] p1) "__init__" p2) [.Constant (.str txt) j p3] [] p4) p5 :: rest)
    {t : TS} (hb : ∀ (A : Around) (outer : List PySem.Env) (s : Shared) (H : Hp) (E : XK), PSs (NdefX.ncx (L2N.CX P w) P w K mg base N ⟨nm, qual, params, body, scope, [("__class__", cc)], cda⟩ f A outer s H E) rest t)
    (ht : ∀ (a : Addr) (ws : List V) (H1 : Hp) (D : Ends) (σ : L2.St), σ[0]? = some (some (.ref a)) → (∀ i v, ws[i]? = some v → σ[i + 1]? = some (some v)) → ws.length = n → H1 a = none →
      (∀ d H2 σ', H2 a = some (exo a C (some d)) → H2 d = some (exd d (fs.zip ws).reverse) → H1 d = none → d ≠ a → (∀ b, b ≠ a → b ≠ d → H2 b = H1 b) → D.nx σ' H2) → t D σ (upd H1 a (exo a C none)))
    (hin : ∀ (L : Addr), interactive (PySem.W.ksEnv qual scope L f (.ref cda) cc) = false := by intro _; rfl)
    (hsw : ∀ (L : Addr), swapsWith (.Call (.Attribute (.Call (.Name "super" p0) [] [] p1) "__init__" p2) [.Constant (.str txt) j p3] [] p4) none p5.line (PySem.W.ksEnv qual scope L f (.ref cda) cc) = pure false := by intro _; rfl)
    {pl : Sem Bool} (hea : ∀ (L : Addr), eval (.Call (.Attribute (.Call (.Name "super" p0) [] [] p1) "__init__" p2) [.Constant (.str txt) j p3] [] p4) (PySem.W.ksEnv qual scope L f (.ref cda) cc) = (do
      let ov ← attributeBase (.Call (.Name "super" p0) [] [] p1) "__init__" (PySem.W.ksEnv qual scope L f (.ref cda) cc) (eval (.Call (.Name "super" p0) [] [] p1) (PySem.W.ksEnv qual scope L f (.ref cda) cc))
      standAt p2.atName
      let (g, first) ← holding [ov] (getMethod ov "__init__" pl)
      callWith p4 g first (backTo p4 (starEach [.Constant (.str txt) j p3] (PySem.W.ksEnv qual scope L f (.ref cda) cc))) []) := by intro _; rfl)
    (hst : ∀ (L : Addr), starEach [.Constant (.str txt) j p3] (PySem.W.ksEnv qual scope L f (.ref cda) cc) = [(false, eval (.Constant (.str txt) j p3) (PySem.W.ksEnv qual scope L f (.ref cda) cc))] := by intro _; rfl) :
    FnOk P w K mg base (L2N.CX P w) (k + 1) f fd ps (spX C n fs) := by
  subst hps
  obtain ⟨oc, od, dV, kV, doc, pm, an, ct, osl, rfl, lk⟩ := XI.fn
  obtain ⟨ccl, cdd, cvs, ccs, file, tf, hcode, hvs, hfile⟩ := XI.fl
  obtain ⟨cl, cld, csl, hcell⟩ := XI.cell
  obtain ⟨cdC, ddC, slC, hcls, hClk⟩ := oexC_cd XI.T
  have len : ∀ vs H Q E, spX C n fs vs H Q E → vs.length = (self :: fs).length := fun vs H Q E ⟨a, H1, ws, e, _, _, l, _⟩ => by
    rw [e, List.length_cons, List.length_cons, l, hlen]
  refine ⟨len, fun A outer s H args us vs Q E hr e0 hbi r hsp => ?_⟩
  have hl := len _ _ _ _ hsp
  obtain ⟨a, H1, ws, rfl, rfl, ha, hwl, q⟩ := hsp
  have KX : K.In s.heap := e0.mod.kin.keeps fun b o e => (e0.bs b o e).1
  have lim : s.heap.NoLimit := e0.mod.nolimit.keeps fun b o e => (e0.bs b o e).1
  refine ks_codeAny_call_defAt (binds := (self :: fs).zip us) (body := body) hr.depth (KX _ _ lk) rfl lim (PySem.W.codeRec_of KX XI.cd) rfl hbi S.nocell (fun ⟨m, _⟩ hy => S.par m (List.of_mem_zip hy).1) (fun h₁ hns kp => ?_) S.co S.gen S.kind
  have hbase : K.In base := e0.mod.kin
  have hcB : base.get? cc = some ⟨cl, cld, .cell (some (.ref C)), csl⟩ := hbase _ _ hcell
  have CA : NdefX.CellsAt [("__class__", cc)] ["__class__"] [none] s.heap (upd H1 a (exo a C none)) := by
    refine ⟨rfl, fun y c e => ?_, fun x y c e1 e2 => ?_, fun i y e => ?_⟩
    · have hc : c = cc := by
        have := PySem.mem_of_lookup e
        simpa using (Prod.mk.inj (List.mem_singleton.mp this)).2
      subst hc
      exact ⟨(e0.bs _ _ hcB).2, _, _, (e0.bs _ _ hcB).1, rfl⟩
    · have h1 := (Prod.mk.inj (List.mem_singleton.mp (PySem.mem_of_lookup e1))).1
      have h2 := (Prod.mk.inj (List.mem_singleton.mp (PySem.mem_of_lookup e2))).1
      exact h1.trans h2.symm
    · cases i with
      | zero =>
        simp only [List.getElem?_cons_zero, Option.some.injEq] at e
        subst e
        exact ⟨cc, rfl, fun v z => by simp at z⟩
      | succ i => simp at e
  have I := NdefX.inv_startN (CX := L2N.CX P w) (f := f) (E := E) (F := ⟨nm, qual, params, body, scope, [("__class__", cc)], cda⟩) (tk := s.toks + ((self :: fs).zip us).length) S hr.hd e0 hl r CA hns kp
  obtain ⟨u0, us', rfl, ru0⟩ : ∃ u0 us', us = u0 :: us' ∧ L2.RelV (.ref a) u0 := by
    cases r with
    | cons r1 r2 => exact ⟨_, _, rfl, r1⟩
  obtain rfl : u0 = Value.ref a := ru0
  have hv : ((self :: fs).zip (Value.ref a :: us')).reverse.lookup self = some (.ref a) := by
    have nd : (self :: fs).Nodup := by
      have q := S.nd.sublist (List.take_sublist ((self :: fs).length + (["__class__"] : List Str).length) N)
      rw [S.pre] at q
      exact (List.nodup_append.mp q).1
    exact NdefX.zip_look (i := 0) nd rfl rfl
  have ea : (upd H1 a (exo a C none)) a = some (exo a C none) := upd_same
  subst hbody
  refine ks_wpAt_execs_cons (ks_wpAt_Expr_any (ks_wpAt_MethodCall (pl := pl) ?_ (hea _)) (hin _) (hsw _))
  refine ks_wpAt_super_base (f := f) (cc := cda) (ar := ar) hsk (S.frk _ List.mem_cons_self) rfl rfl (I.kIn _ _ lk) rfl har rfl (I.kIn _ _ hcode) rfl hvs hfile htop ?_
  obtain ⟨mb, hmb, hmb2⟩ := I.mod.blt
  refine PySem.W.ks_loadName_global S.kind hsk (PySem.Calls.loadGlobal_builtin (I.mod.glob.keeps I.bk) hmg (hmb.keeps I.bk) ((hmb2 "super" (by decide)).trans hv_super) ⟨rfl, ?_⟩)
  refine wpAny_loadName_free S.kind (S.frk _ List.mem_cons_self) rfl ⟨_, I.kIn _ _ hcell, rfl⟩ ?_
  refine wpAny_loadName_local S.kind (by rw [hself]; exact S.par _ List.mem_cons_self) hns (by rw [hself]; exact hv) ?_
  refine ks_wpAny_isType_cls (I.kIn _ _ hClk) rfl ⟨rfl, ?_⟩
  obtain ⟨t1, hat⟩ := exo_at I.hok ea
  refine ks_wpAny_call_super (I.kIn _ _ hClk) rfl hat rfl (fun c z => nomatch z) (PySem.W.looks_mroIn I.kIn XI.me) fun h2 hso kp2 => ?_
  have I2 := I.kept (t' := s.toks + ((self :: fs).zip (Value.ref a :: us')).length) kp2
  have hmr : PySem.W.Looks (model P w) h2 (mroOf (.ref C)) cdC.mro := fun A Q E s k q => wpAny_bind ((PySem.W.looks_clsIn I2.kIn hcls) A _ E s k (wpAny_pure q))
  have hsup := XI.sup
  unfold PySem.W.ks_superIn at hsup
  rw [hcls] at hsup
  have hat2 := kp2 _ _ hat
  have hIA : PySem.W.InstAt h2 a { cls := .ref C, dict := none, data := .fields #[.ref t1, .none, .none, .none, .bool false, .none] } C none := ⟨hat2, rfl, rfl, trivial⟩
  refine PySem.W.kxs_getMethod PySem.W.kxs_ValueError hso (PySem.W.looks_opaque I2.kIn XI.thi) hmr rfl I2.kIn hsup (hIA.type.andThen (PySem.W.looks_subIn I2.kIn XI.ve)) (PySem.W.ks_ne I2.kIn hIA hcls) (by decide) ?_
  have kp3 : ∀ b o, h2.get? b = some o → (h2.push (PySem.W.kxs_mw "ValueError.__init__" a)).get? b = some o := fun b o e => Heap.get?_push_of_some _ e
  have hu : (h2.push (PySem.W.kxs_mw "ValueError.__init__" a)).get? h2.objs.size = some (PySem.W.kxs_mw "ValueError.__init__" a) := Heap.get?_push_size _ rfl
  have I3 := I2.kept (t' := s.toks + ((self :: fs).zip (Value.ref a :: us')).length + 1) kp3
  have I4 := I3.pins_of (pins' := [(h2.objs.size, PySem.W.kxs_mw "ValueError.__init__" a)]) fun p hp => by
    obtain rfl := List.mem_singleton.mp hp
    exact ⟨hu, I2.hok.fresh (Nat.le_refl _), Nat.ne_of_gt I2.lt, I2.nofs (Nat.le_refl _), fun v z => nomatch z⟩
  refine callWith_kxs (i := "ValueError.__init__") (u := h2.objs.size) (x := a) ?_ (hst _) rfl
  have ha1 := (pa_cons (pe_str (x := txt) (j := j) (pos := p3)) pa_nil (hst s.heap.objs.size)).run p4 _ _ _ _ (fun vs H2 => vs.length ≤ sizeLine ∧ H2 = upd H1 a (exo a C none)) I4 ⟨by rw [sizeLine_eq]; simp, rfl⟩
  refine wpAny_mono ha1 (fun us2 s2 ⟨vs, H2, I5, r5, hl5, e5⟩ => ?_) fun e s' z => z
  subst e5
  have hu5 := (I5.pin (h2.objs.size, PySem.W.kxs_mw "ValueError.__init__" a) (List.mem_append_right _ List.mem_cons_self)).1
  refine ⟨hu5, ?_⟩
  refine kxs_done XI.T I5 ea hu5 (by rw [← r5.length]; exact hl5) fun s' I6 => ?_
  refine PySem.wpAt_of_wpAny ?_
  have I' := I6.unpinned (pins := []) 
  refine wpAny_mono ((hb A outer s (upd H1 a (exo a C none)) E).run [] _ _ _ { nx := fun _ H' => Q .non H', rt := fun _ _ => False } I' (ht a ws H1 _ _ rfl (fun i v hi => ?_) hwl ha fun d H2 σ' k1 k2 k3 k4 k5 => q d H2 k1 k2 k3 k4 k5)) (fun fl s' hs => ?_) fun e s' hs => hs
  · unfold NdefX.startF
    have hi2 := (List.getElem?_eq_some_iff.mp hi).1
    rw [List.getElem?_append_left (by simpa using hi2)]
    simp [hi]
  · cases fl with
    | next =>
      obtain ⟨σ', H', J, q⟩ := hs
      exact ⟨.non, H', J.os, J.bare, J.base, J.hok, rfl, q⟩
    | ret u =>
      obtain ⟨_, _, _, _, _, q⟩ := hs
      exact q.elim
    | brk =>
      obtain ⟨_, _, _, q⟩ := hs
      exact False.elim q
    | cont =>
      obtain ⟨_, _, _, q⟩ := hs
      exact False.elim q
end
section
variable {X : Cx} {CX : CXT} {x : Str} {C fI : Addr} {k : Nat} {fd : FuncData} {ps : List Str} {sp : Sp} {e : Expr} {es : List Expr} {ta : TA} {p pos : Pos}
/-- C(e, ..) makes an error that came out of nothing -/
theorem pmkN (T : OexC X.K C) (iC : PySem.W.findIn X.K (.ref C) "__init__" = some (some (.ref fI))) (tI : PySem.W.typeIn X.K (.ref fI) = some (.type "function"))
    (F1 : FnOk X.prog X.w X.K X.mg X.base CX k fI fd ps sp) (hr : Room (k + 1) X.A) (hb : Binds X.K fd ps []) (hx : Passes CX X (fun _ _ _ => False)) (hg : Gl X x) (hm : X.mg x = some (.ref C)) (ha : PA X (e :: es) ta)
    (hdb : (x == ("__debug__" : Str)) = false) (he : starEach (e :: es) X.env = (false, eval e X.env) :: starEach es X.env) (hpl : (backTo pos (starEach es X.env)).any (·.1) = false) :
    L2N.PMk X (.Call (.Name x p) (e :: es) [] pos) (tMkO C sp [] ta) := by
  intro pins s0 σ H Q I h
  have key : ∀ (us : List Value) (s : Shared), (∃ (vs : List V) (H1 : Hp), Inv X pins σ H1 s ∧ Vals vs us ∧ vs.length ≤ 1000 ∧ ∀ a, H1 a = none → sp (.ref a :: (vs ++ [])) (upd H1 a (exo a C none))
      (fun v H2 => v = .non ∧ ∃ (d : Addr) (fs : List (Str × V)), H2 a = some (exo a C (some d)) ∧ H2 d = some (exd d fs) ∧ H1 d = none ∧ Q (.ref C) (some d) (upd (del H2 a) d (.xd fs))) (fun _ _ _ => False)) →
      wpAny (model X.prog X.w) X.A (PySem.call (.ref C) us) (L2N.MkP X pins σ Q) X.xe s := by
    rintro us ⟨hp, g, dr, tk, os⟩ ⟨vs, H1, I1, r1, hz, q1⟩
    obtain ⟨nm, q, N, bs, bm, sn, sub, ab, col, dd, k0, k1, k2, k3, k5, hC, hbm⟩ := T.cls
    have hus : us.length ≤ sizeLine := by
      rw [← Paired.length r1, sizeLine_eq]
      omega
    have hsz : hp.objs.size ≤ hp.objs.size + 1 := Nat.le_add_right _ _
    have hq := q1 _ (I1.hok.fresh hsz)
    rw [List.append_nil] at hq
    have kk : ∀ b o, hp.get? b = some o → ((hp.push (PySem.W.kdv_tup us)).push (PySem.HandSPX.excO C hp.objs.size)).get? b = some o := fun b o z => Heap.get?_push_of_some _ (Heap.get?_push_of_some _ z)
    have new : ObjOk X.prog X.w (upd H1 (hp.objs.size + 1) (exo (hp.objs.size + 1) C none)) ((hp.push (PySem.W.kdv_tup us)).push (PySem.HandSPX.excO C hp.objs.size)) (hp.objs.size + 1) (exo (hp.objs.size + 1) C none) := exo_ok (t1 := hp.objs.size) (by heap_get)
    have I2 : Inv X pins σ _ ⟨_, g, dr, tk, os⟩ := I1.laid (t' := tk) kk hsz new
    have r2 : Vals (V.ref (hp.objs.size + 1) :: vs) (Value.ref (hp.objs.size + 1) :: us) := .cons rfl r1
    have hl2 := r2.length.symm.trans (F1.len _ _ _ _ hq)
    have b2 := hb _ (Value.ref (hp.objs.size + 1) :: us) I2.kIn (by rw [List.append_nil]; exact hl2)
    rw [List.append_nil] at b2
    have run := F1.run (X.A.under (.builtin "type.__call__" ⟨.ref C :: us, []⟩)) X.stack _ _ ⟨_, []⟩ _ _ _ _ (hr.make C us []) (I2.env0.make C us []) b2 r2 hq
    refine wpAny_call (PySem.HandSPX.call_own PySem.F.excBase_ValueError (fun Y => PySem.HandSPX.refsVE_contains Y bm hbm) (I1.kIn _ _ hC) (PySem.W.looks_findIn I1.kIn iC) (fun self => PySem.W.bind_fn I1.kIn self tI) hus (codeAny_mono run ?_))
    intro r s' hq'
    match r, hq' with
    | .error er, z => exact hx pins σ _ _ er s' I2 z
    | .ok (.ret u), z =>
      obtain ⟨v, H2, os2, bare2, un2, hok2, rv, ev, d, fs, ea, ed, hd1, q2⟩ := z
      subst ev
      obtain ⟨h2, g2, d2, t2, os'⟩ := s'
      obtain ⟨t0, G, J, kG, ge, hoe, na⟩ := mk_end0 (d2 := d2) (t2 := t2) I1 hsz kk un2 hok2 os2 bare2 ea ed hd1
      refine ⟨rv, ?_⟩
      exact ⟨_, _, _, ⟨G, g2, d2, t2, os'⟩, _, _, some d, rfl, J, kG, ge, hoe, ⟨rfl, rfl, fun ws hv => by cases hv <;> rfl⟩, rfl, rfl, na, rfl, bare2, raises_own T.exC T.tyC, q2⟩
    | .ok .next, z => exact False.elim z
    | .ok .brk, z => exact False.elim z
    | .ok .cont, z => exact False.elim z
  refine wpAny_Call_Name_kw (ld_glob I hg hm ?_ hdb)
  refine PySem.W.callWith_K (h₀ := X.base) I.ok.mod.kin T.kC (thn (ha.run pos pins s0 σ H _ I h) fun us s1 hh => ?_) he hpl
  obtain ⟨vs, H1, I1, r1, z⟩ := hh
  exact ⟨I1.kIn, key us s1 ⟨vs, H1, I1, r1, z⟩⟩
end
end Py
/-! Errors of own classes: what the head tells of them, raise. -/
namespace Py
open PySem L2
open He (Fa DefD Tab FnW)
/-! ### facts -/
theorem oexB_ok {c : String} {K : Frag} (h : oexB c K = true) : ∃ nm q N bs bm sn sub ab col dd k0 k1 k2 k3 k5, K.lookup (ca K c) = some (excClassObj nm q (ca K c) N bs bm true sn sub ab col dd k0 k1 k2 k3 k5 "ValueError.__new__") ∧ PySem.HandSPX.refsVE bm = true := by
  unfold oexB at h
  split at h
  · rename_i dd cd sl ho
    split at h
    · rename_i C' bm k0 k1 k2 k3 n k5 hm hs
      simp only [Bool.and_eq_true, decide_eq_true_eq, Bool.not_eq_true'] at h
      obtain ⟨h1, h2, h3, h4, h5⟩ := h
      obtain ⟨nm, bs, mro, ns, qn, hd, sn, sub, ab, col, del⟩ := cd
      dsimp only at hm h3 h4
      subst hm h3 h4 h1 h2
      have hsl : sl = #[k0, k1, k2, k3, some (.builtin "ValueError.__new__"), k5] := by
        obtain ⟨l⟩ := sl
        simp only at hs
        rw [hs]
      subst hsl
      exact ⟨nm, qn, ns, bs, bm, sn, sub, ab, col, dd, k0, k1, k2, k3, k5, ho, h5⟩
    · cases h
  · cases h
structure ErrF (P : Program) (K : Frag) (c : String) (nm qual : Str) (params : Arguments) (body : List Stmt) (scope : Scope) (fs : List String) : Prop where
  xin : ∃ cc cda fd, XIn P K (ca K c) (He.ma K (ca K c) "__init__") cc cda nm qual params body scope fd ∧ ∃ kV doc pm an ct, fd = PySem.W.ksFn nm qual params body scope .none kV doc pm an (.ref cda) ct cc
  ini : PySem.W.findIn K (.ref (ca K c)) "__init__" = some (some (.ref (He.ma K (ca K c) "__init__")))
  typ : PySem.W.typeIn K (.ref (He.ma K (ca K c) "__init__")) = some (.type "function")
  no : ∀ f ∈ fs, PySem.W.findIn K (.ref (ca K c)) (Str.ofString f) = some none
theorem err_f {P : Program} {K : Frag} {c : String} {d : DefD} {file : Str} {fs : List String} (hat : d.at_ = (Str.ofString c, some ("__init__" : Str))) (hf : ((P.main.file : Str) == file) = true) (e : fnWx K d.at_ = d.val) (h : errB file c d.qual fs K = true) : ErrF P K c d.name d.qual d.params d.body d.scope fs := by
  unfold errB at h
  simp only [Bool.and_eq_true, decide_eq_true_eq, List.all_eq_true] at h
  obtain ⟨hc, ho, h1, h2, h3, h4, h5, h6, h7, h8, h9, h10, h11⟩ := h
  have hfa : He.fAd K d.at_ = He.ma K (ca K c) "__init__" := by rw [hat] <;> rfl
  unfold cloB at hc
  unfold fnWx at e
  rw [hfa] at e
  cases q : K.lookup (He.ma K (ca K c) "__init__") with
  | none =>
    rw [q] at hc
    cases hc
  | some o =>
    obtain ⟨oc, od, dt, osl⟩ := o
    rw [q] at hc e
    cases dt with
    | func fd =>
      obtain ⟨n1, n2, n3, n4, n5, n6, n7, n8, n9, n10, n11, n12, n13, n14, n15⟩ := fd
      have e2 : (some (n1, n2, n3, n4, n5, n6, [], n15) : FnW) = some (d.name, d.qual, d.params, .stmts d.body, d.scope, mainGlobals, [], builtinsNs) := e
      simp only [Option.some.injEq, Prod.mk.injEq, true_and] at e2
      obtain ⟨g1, g2, g3, g4, g5, g6, g8⟩ := e2
      subst g1 g2 g3 g4 g5 g6 g8
      dsimp only at hc
      split at hc
      · rename_i cda y cc
        simp only [Bool.and_eq_true, decide_eq_true_eq] at hc
        obtain ⟨c1, c2, c3, c4, c5⟩ := hc
        subst c1 c2
        split at c4
        · rename_i cl cld D csl hcell
          have hD : D = ca K c := of_decide_eq_true c4
          subst hD
          split at c5
          · rename_i ccl cdd vs ccs hcode
            split at c5
            · rename_i z tf hz
              have hz2 : z = file := of_decide_eq_true c5
              subst hz2
              exact ⟨⟨cc, cda, _, ⟨⟨oc, od, _, n9, n10, n11, n12, n14, osl, rfl, q⟩, c3, ⟨ccl, cdd, vs, ccs, z, tf, hcode, hz, hf⟩, ⟨cl, cld, csl, hcell⟩, ⟨oexB_ok ho, h1, h2, h3, h4⟩, h5, h6, h7, h8⟩, n9, n10, n11, n12, n14, rfl⟩, h9, h10, h11⟩
            · cases c5
          · cases c5
        · cases c4
      · cases hc
    | _ => cases hc
/-- the name c makes an error that keeps what it is given under the names ns -/
structure ErrOk (P : Program) (w : World) (K : Frag) (mg : Str → Option Value) (base : Heap) (k : Nat) (c : String) (ns : List String) : Prop where
  ex : ∃ f fd ps, mg (Str.ofString c) = some (.ref (ca K c)) ∧ OexC K (ca K c) ∧ PySem.W.findIn K (.ref (ca K c)) "__init__" = some (some (.ref f)) ∧ PySem.W.typeIn K (.ref f) = some (.type "function") ∧ Binds K fd ps [] ∧
    FnOk P w K mg base (L2N.CX P w) k f fd ps (spX (ca K c) ns.length (ns.map Str.ofString))
/-! ### its fields, laid one behind another -/
section
variable {K : Frag} {f g : Str} {C : Addr}
theorem fld_one (T : OexC K C) (hno : PySem.W.findIn K (.ref C) f = some none) {a : Addr} {ws : List V} {H1 : Hp} {D : Ends} {σ : L2.St} (h0 : σ[0]? = some (some (.ref a))) (h1 : ∀ i v, ws[i]? = some v → σ[i + 1]? = some (some v)) (hl : ws.length = 1) (hn : H1 a = none)
    (q : ∀ d H2 σ', H2 a = some (exo a C (some d)) → H2 d = some (exd d (([f] : List Str).zip ws).reverse) → H1 d = none → d ≠ a → (∀ b, b ≠ a → b ≠ d → H2 b = H1 b) → D.nx σ' H2) : tOst K f (tVar 0) (tVar 1) D σ (upd H1 a (exo a C none)) := by
  match ws, hl with
  | [v], _ =>
    refine ⟨v, h1 0 v rfl, _, h0, a, C, rfl, T, hno, .inl ⟨upd_same, fun dx hdx hne => q dx _ σ upd_same ?_ ?_ hne fun b hb hd => ?_⟩⟩
    · rw [upd_ne hne, upd_same]
      rfl
    · rw [upd_ne hne] at hdx
      exact hdx
    · rw [upd_ne hb, upd_ne hd, upd_ne hb]
theorem fld_two (T : OexC K C) (hno : PySem.W.findIn K (.ref C) f = some none) (hno2 : PySem.W.findIn K (.ref C) g = some none) {a : Addr} {ws : List V} {H1 : Hp} {D : Ends} {σ : L2.St} (h0 : σ[0]? = some (some (.ref a))) (h1 : ∀ i v, ws[i]? = some v → σ[i + 1]? = some (some v)) (hl : ws.length = 2) (hn : H1 a = none)
    (q : ∀ d H2 σ', H2 a = some (exo a C (some d)) → H2 d = some (exd d (([f, g] : List Str).zip ws).reverse) → H1 d = none → d ≠ a → (∀ b, b ≠ a → b ≠ d → H2 b = H1 b) → D.nx σ' H2) : tSeq (tOst K f (tVar 0) (tVar 1)) (tOst K g (tVar 0) (tVar 2)) D σ (upd H1 a (exo a C none)) := by
  match ws, hl with
  | [v, w], _ =>
    refine ⟨v, h1 0 v rfl, _, h0, a, C, rfl, T, hno, .inl ⟨upd_same, fun dx hdx hne => ?_⟩⟩
    have hdx2 : H1 dx = none := by
      rw [upd_ne hne] at hdx
      exact hdx
    refine ⟨w, h1 1 w rfl, _, h0, a, C, rfl, T, hno2, .inr ⟨dx, [(f, v)], upd_same, ?_, by simp, q dx _ σ ?_ ?_ hdx2 hne fun b hb hd => ?_⟩⟩
    · rw [upd_ne hne, upd_same]
    · rw [upd_ne hne.symm, upd_same]
    · rw [upd_same]
      rfl
    · rw [upd_ne hd, upd_ne hb, upd_ne hd, upd_ne hb]
end
theorem ErrF.T {P : Program} {K : Frag} {c : String} {nm qual : Str} {params : Arguments} {body : List Stmt} {scope : Scope} {fs : List String} (F : ErrF P K c nm qual params body scope fs) : OexC K (ca K c) := by
  obtain ⟨⟨cc, cda, fd, XI, _⟩, _⟩ := F
  exact XI.T
/-! ### raise -/
theorem RepF.append {K : Frag} {A : AS} {H : Hp} : ∀ {fs gs : List (String × D)} {us vs : List (Str × V)}, RepF K A H fs us → RepF K A H gs vs → RepF K A H (fs ++ gs) (us ++ vs)
  | [], gs, us, vs, h, k => by
    simp only [RepF] at h
    subst h
    exact k
  | (n, d) :: fs, gs, us, vs, h, k => by
    simp only [RepF] at h
    obtain ⟨v, r, rfl, h1, h2⟩ := h
    simp only [List.cons_append, RepF]
    exact ⟨v, r ++ vs, rfl, h1, RepF.append h2 k⟩
theorem repF_zip {K : Frag} {A : AS} {H : Hp} : ∀ {ns : List String} {ds : List D} {vs : List V}, RepL K A H ds vs → RepF K A H (ns.zip ds).reverse ((ns.map Str.ofString).zip vs).reverse
  | [], ds, vs, h => by simp [RepF]
  | n :: ns, [], vs, h => by
    simp only [RepL] at h
    subst h
    simp [RepF]
  | n :: ns, d :: ds, vs, h => by
    simp only [RepL] at h
    obtain ⟨v, r, rfl, h1, h2⟩ := h
    simp only [List.zip_cons_cons, List.map_cons, List.reverse_cons]
    refine RepF.append (repF_zip h2) ?_
    simp only [RepF]
    exact ⟨v, [], rfl, h1, rfl⟩
section
variable {fr : Rm} {X : Cx} {W : WX} {ow oN oB : Ow} {e : Expr} {es : List Expr} {am : AM} {pos p rpos : Pos} {k j : Nat} {c : String} {ns : List String}
theorem s_raise (T : Ctx X W j) (C : ErrOk X.prog X.w X.K X.mg X.base k c ns) (hk : k + 1 ≤ j) (hg : Gl X (Str.ofString c)) (ha : PA X (e :: es) (aE X.K W ow am)) (hz : ns.length ≤ 1000 := by decide)
    (hdb : (Str.ofString c == ("__debug__" : Str)) = false := by decide) (he : starEach (e :: es) X.env = (false, eval e X.env) :: starEach es X.env := by rfl) (hpl : (backTo pos (starEach es X.env)).any (·.1) = false := by rfl) :
    PS X (.Raise (some (.Call (.Name (Str.ofString c) p) (e :: es) [] pos)) none rpos) (tS3 fr X.K W ow oN oB (rais c ns am)) := by
  obtain ⟨f, fd, ps, hm, TO, hi, ht, hb, F⟩ := C.ex
  refine PS.of (L2N.ps_raise T.calm T.tk (pmkN TO hi ht F (T.hr.mono hk) hb passLN hg hm ha hdb he hpl)) fun D σ H ⟨A, H0, O, en, R, q⟩ => ?_
  refine ⟨A, H0, O, en, R, ((Out.bind (show Out (am en >>= fun ds => if ds.length = ns.length then (Res.exc c (ns.zip ds).reverse : Res Fl) else .stuck) _ _ from q)).se R).good fun ds q1 vs H1 s1 r1 => ?_⟩
  have r2 := paired_rep r1
  by_cases hl : ds.length = ns.length
  · rw [if_pos hl] at q1
    refine ⟨by rw [← r2.length, hl]; exact hz, fun a hn => ⟨a, H1, vs ++ [], by simp, rfl, hn, by simp [← r2.length, hl], fun d H2 k1 k2 k3 k4 k5 => ⟨rfl, d, _, k1, k2, k3, ?_⟩⟩⟩
    have sm : Same H1 (upd (del H2 a) d (.xd ((ns.map Str.ofString).zip (vs ++ [])).reverse)) := fun b o eb => by
      have hba : b ≠ a := ne_of_none eb hn
      have hbd : b ≠ d := ne_of_none eb k3
      rw [upd_ne hbd, del_ne hba, k5 b hba hbd]
      exact eb
    refine (show badS X.K W A H0 c (ns.zip ds).reverse from q1) σ d _ _ (R.same.trans (s1.trans sm)) upd_same ?_
    have r3 : RepL X.K A (upd (del H2 a) d (.xd ((ns.map Str.ofString).zip (vs ++ [])).reverse)) ds (vs ++ []) := by
      have r4 : RepL X.K A _ ds vs := RepL.move (Mv.less (A := AO A O) (A' := A) fun b hb => Or.inl hb) ds vs (RepL.move (Mv.same sm) ds vs r2)
      simpa using r4
    exact repF_zip r3
  · rw [if_neg hl] at q1
    exact q1.elim
end
end Py
/-! Within an except suite, and within what is called there. -/
namespace Py
open PySem L2 L2H
structure CtxH (X : Cx) (W : WX) (k : Nat) : Prop where
  tk : L2N.Takes X W
  po : PassesOwn (model X.prog X.w) X.A X.env X.xe
  hr : RoomH k X.A
  hot : HotC X
  nd : X.N.Nodup
theorem CtxH.eq {X : Cx} {W : WX} {k : Nat} (T : CtxH X W k) : OpR X (compareOp .Eq) (r2 X.K oeq) := y_eq (by have := T.hr.un; omega)
theorem CtxH.ne {X : Cx} {W : WX} {k : Nat} (T : CtxH X W k) : OpR X (compareOp .NotEq) (r2 X.K one) := y_ne (by have := T.hr.un; omega)
/-! ### loops over a range -/
/-! ### calls -/
theorem FnH.mono {P : Program} {w : World} {K : Frag} {mg : Str → Option Value} {base : Heap} {CX : CXT} {j k : Nat} {f : Addr} {fd : FuncData} {ps : List Str} {sp : Sp} (F : FnH P w K mg base CX j f fd ps sp) (h : j ≤ k) : FnH P w K mg base CX k f fd ps sp :=
  ⟨F.len, fun A outer s H args us vs Q E p hr => F.run A outer s H args us vs Q E p (hr.mono h)⟩
end Py
/-! try .. except X as e, and what is asked of e. -/
namespace Py
open PySem L2 L2H
/-! ### facts -/
def xcV (K : Frag) (t : String) : V := if t = "ValueError" then .ty "ValueError" else .ref (ca K t)
theorem xc_cls (K : Frag) (t : String) : ClsV (xcV K t) (xcU K t) := by
  unfold xcV xcU
  split
  · exact .ty _
  · exact .own _
structure ErC (K : Frag) (all fl : List String) (c : String) : Prop where
  cl : (PySem.W.clsIn K (ca K c)).isSome = true
  ga : PySem.W.findIn K (.ref (ca K c)) "__getattribute__" = some (some (.builtin "BaseException.__getattribute__"))
  gg : PySem.W.findIn K (.ref (ca K c)) "__getattr__" = some none
  be : PySem.W.subIn K (.ref (ca K c)) (.type "BaseException") = some true
  cc : PySem.W.findIn K (.ref (ca K c)) "__class__" = some (some (.builtin "object.__class__"))
  cg : PySem.W.specialIn K (.builtin "object.__class__") "__get__" = some (some (.builtin "getset_descriptor.__get__"))
  ct : PySem.W.takesIn K (.builtin "object.__class__") = some true
  ob : PySem.W.mroIn K (ca K c) (.type "object") = some true
  hd : PySem.W.hasDictIn K (ca K c) = true
  ex : PySem.W.exmOne K (.ref (ca K c)) (.ref (ca K "CarryError")) = some true
  kt : ∀ t ∈ all, PySem.W.kitOne K (.ref (ca K c)) (xcU K t) = some (xisa c [t])
  fl : ∀ f ∈ fl, PySem.W.findIn K (.ref (ca K c)) (Str.ofString f) = some none
def ErsOk (K : Frag) (es all fl : List String) : Prop := ∀ c ∈ es, ErC K all fl c
theorem ers_ok {K : Frag} {es all fl : List String} (h : ersB es all fl K = true) : ErsOk K es all fl := fun c hc => by
  have h1 := List.all_eq_true.mp h c hc
  simp only [Bool.and_eq_true, decide_eq_true_eq, List.all_eq_true] at h1
  obtain ⟨a1, a2, a3, a4, a5, a6, a7, a8, a9, b1, b2, b3⟩ := h1
  exact ⟨a1, a2, a3, a4, a5, a6, a7, a8, a9, b1, b2, b3⟩
/-! ### the body: an error leaves the names as they are -/
def tB (fr : Rm) (K : Frag) (W : WX) (ow oN oB : Ow) (m : SM) : TS := fun D σ H => ∃ A H0 O e, ER K A H0 ow O σ H e ∧ Out (m e) (EndOk3 fr K A H0 oN oB O H D) (badE K W A O σ H)
section
variable {fr : Rm} {X : Cx} {W : WX} {ow oN oB : Ow} {a e : Expr} {es' : List Expr} {m : EM} {st : Stmt} {rest body orelse : List Stmt} {u v : SM} {t : TM} {pos p : Pos} {j : Nat}
theorem b_drop (h : PS X st (tDrop (tE X.K W ow m))) : PS X st (tB fr X.K W ow ow oB (drop m)) :=
  PS.of h fun D σ H ⟨A, H0, O, en, R, q⟩ => ⟨A, H0, O, en, R, (Out.bind q).good fun d q1 v H1 s1 r1 => q1 O σ H1 (R.to s1) (Mv.same s1)⟩
theorem b_if (hc : PT X a (tT X.K W ow t)) (hb : PSs X body (tB fr X.K W ow oN oB u)) (ho : PSs X orelse (tB fr X.K W ow oN oB v)) : PS X (.If a body orelse pos) (tB fr X.K W ow oN oB (ite t u v)) :=
  PS.of (ps_if hc hb ho) fun D σ H ⟨A, H0, O, en, R, q⟩ => ⟨A, H0, O, en, R, (Out.bind q).good fun k q1 H1 s1 => by
    cases k with
    | true =>
      rw [if_pos rfl] at q1 ⊢
      exact ⟨A, H0, O, en, R.to s1, (q1.to s1).good fun f q2 => q2.to (Mv.same s1)⟩
    | false =>
      rw [if_neg (by decide)] at q1 ⊢
      exact ⟨A, H0, O, en, R.to s1, (q1.to s1).good fun f q2 => q2.to (Mv.same s1)⟩⟩
theorem bs_one (h : PS X st (tB fr X.K W ow oN oB u)) : PSs X [st] (tB fr X.K W ow oN oB u) := pss_one h
end
/-! ### try -/
theorem Ctx.tr {X : Cx} {W W' : WX} {k : Nat} (c : Ctx X W k) {pn : List (Addr × Obj)} {xe : Value → Shared → Prop} (tk : L2N.Takes (X.tr pn xe) W') (po : PassesOwn (model X.prog X.w) X.A X.env xe) : Ctx (X.tr pn xe) W' k := ⟨c.calm, tk, po, c.hr, c.nd⟩
section
variable {fr : Rm} {X : Cx} {W : WX} {ow oN oB : Ow} {body suite : List Stmt} {b₀ : Stmt} {u : SM} {h : String → List (String × D) → SM} {np pos pos' : Pos} {j i : Nat} {es all fl : List String} {x n : Str}
theorem ER.catch {K : Frag} {A : AS} {H0 : Base} {O : OW} {σ : L2.St} {H : Hp} {e : Env} (R : ER K A H0 ow O σ H e) (ho : ow.x = none) (hi : i < σ.length) {a da : Addr} {fs : List (String × D)} {fvs : List (Str × V)} (hd : H da = some (.xd fvs)) (r : RepF K (AO A O) H fs fvs) (hw : ow i = false) :
    ER K A H0 (ow.hold i a da fs) O (σ.set i (some (.ref a))) H (e.set i none) := by
  have other : ∀ k d, (e.set i none)[k]? = some (some d) → i ≠ k ∧ e[k]? = some (some d) := fun k d q => by
    by_cases hk : i = k
    · subst hk
      have hl : i < e.length := by rw [← R.len]; exact hi
      rw [List.getElem?_set_self hl] at q
      cases q
    · rw [List.getElem?_set_ne hk] at q
      exact ⟨hk, q⟩
  have off : ∀ k, i ≠ k → (ow.hold i a da fs) k = ow k := fun k hk => by
    show (k == i || ow k) = ow k
    rw [show (k == i) = false by simpa using fun z => hk z.symm, Bool.false_or]
  refine ⟨by simp [R.len], R.a0, R.same, fun k d h1 h2 => ?_, fun k d h1 h2 => ?_, R.fresh, R.inj, R.pin, fun q hq => ?_⟩
  · obtain ⟨hk, h3⟩ := other k d h1
    rw [off k hk] at h2
    rw [List.getElem?_set_ne hk]
    exact R.vals k d h3 h2
  · obtain ⟨hk, h3⟩ := other k d h1
    rw [off k hk] at h2
    rw [List.getElem?_set_ne hk]
    exact R.owns k d h3 h2
  · have hq2 : some (⟨i, a, da, fs⟩ : Xh) = some q := hq
    cases hq2
    refine ⟨by show (i == i || ow i) = true; simp, List.getElem?_set_self hi, fun d z => (other i d z).1 rfl, fvs, hd, r⟩
/-- behind the suite the name is gone -/
theorem ER.uncatch {K : Frag} {A : AS} {H0 : Base} {O : OW} {σ : L2.St} {H : Hp} {e : Env} {a da : Addr} {fs : List (String × D)} (R : ER K A H0 (oN.hold i a da fs) O σ H e) (ho : oN.x = none) : ER K A H0 oN O (σ.set i none) H (e.set i none) := by
  have hown := R.exq ⟨i, a, da, fs⟩ rfl
  have other : ∀ k d, (e.set i none)[k]? = some (some d) → i ≠ k ∧ e[k]? = some (some d) := fun k d q => by
    by_cases hk : i = k
    · subst hk
      by_cases hl : i < e.length
      · rw [List.getElem?_set_self hl] at q
        cases q
      · rw [List.getElem?_eq_none (by simp; omega)] at q
        cases q
    · rw [List.getElem?_set_ne hk] at q
      exact ⟨hk, q⟩
  have off : ∀ k, i ≠ k → (oN.hold i a da fs) k = oN k := fun k hk => by
    show (k == i || oN k) = oN k
    rw [show (k == i) = false by simpa using fun z => hk z.symm, Bool.false_or]
  refine ⟨by simp [R.len], R.a0, R.same, fun k d h1 h2 => ?_, fun k d h1 h2 => ?_, R.fresh, R.inj, R.pin, XFact.none ho⟩
  · obtain ⟨hk, h3⟩ := other k d h1
    rw [List.getElem?_set_ne hk]
    exact R.vals k d h3 ((off k hk).trans h2)
  · obtain ⟨hk, h3⟩ := other k d h1
    rw [List.getElem?_set_ne hk]
    exact R.owns k d h3 ((off k hk).trans h2)
end
end Py
/-! What a suite asks of the caught error: isinstance, fields. -/
namespace Py
open PySem L2 L2H
open He (Fa DefD Tab FnW)
section
variable {X : Cx} {a da : Addr} {oe : Obj} {pn : List (Addr × Obj)} {c : String} {es all fl : List String}
theorem suite_inst {pins : List (Addr × Obj)} {σ : L2.St} {H : Hp} {s : Shared} {fvs : List (Str × V)} (I : Inv (X.suite a ((a, oe) :: pn)) pins σ H s) (hz : Zc (.ref (ca X.K c)) (some da) oe) (hv : ∃ vs, oe.data = .fields vs) (hd : H da = some (.xd fvs)) : ∃ od, PySem.W.InstAt s.heap a oe (ca X.K c) (some od) := by
  obtain ⟨vs, hvs⟩ := hv
  obtain ⟨mA, hns, hr⟩ := (show ObjOk X.prog X.w H s.heap da (.xd fvs) from I.hok da _ hd)
  obtain ⟨od, ho, _⟩ := lookIn_ns hns
  exact ⟨od, (I.pin (a, oe) (List.mem_append_left _ List.mem_cons_self)).1, hz.1, by unfold PySem.W.notCls; rw [hvs] <;> rfl, by rw [hz.2]; exact ho⟩
theorem call_xis1 (E : ErC X.K all fl c) (hz : Zc (.ref (ca X.K c)) (some da) oe) (hv : ∃ vs, oe.data = .fields vs) : CallR (X.suite a ((a, oe) :: pn)) (.builtin "isinstance")
    (fun xs H Q => ∃ (cV : V) (u : Value) (b : Bool) (fvs : List (Str × V)), xs = [.ref a, cV] ∧ ClsV cV u ∧ H da = some (.xd fvs) ∧ PySem.W.kitOne X.K (.ref (ca X.K c)) u = some b ∧ Q (.bl b) H) := by
  intro pins s σ H xs us Q I r h
  obtain ⟨cV, u, b, fvs, rfl, k, hd, e, q⟩ := h
  obtain ⟨u1, u2, rfl, r1, r2⟩ := vals2 r
  cases (show u1 = Value.ref a from r1)
  have e2 := k.eq r2
  subst e2
  obtain ⟨od, J⟩ := suite_inst I hz hv hd
  exact PySem.W.kia_one (PySem.W.kitx_exc E.cl E.ga E.gg E.be E.cc E.cg E.ct E.ob) I.kIn J e (fun z => nomatch z) fun tk => ⟨.bl b, H, I.tok tk, rfl, q⟩
end
/-- a tuple of classes as written, by names -/
inductive XcL (X : Cx) : List Expr → List String → TA → Prop
  | nil : XcL X [] [] tNil
  | cons {e : Expr} {es : List Expr} {t : String} {ts : List String} {r : TA} (h : PE X e (tC (xcV X.K t))) (k : XcL X es ts r) (hs : starEach (e :: es) X.env = (false, eval e X.env) :: starEach es X.env) : XcL X (e :: es) (t :: ts) (tCons (tC (xcV X.K t)) r)
theorem XcL.pa {X : Cx} {es : List Expr} {ts : List String} {r : TA} (h : XcL X es ts r) : PA X es r := by
  induction h with
  | nil => exact pa_nil
  | cons h _ hs ih => exact pa_cons h ih hs
theorem XcL.run {X : Cx} {es : List Expr} {ts : List String} {r : TA} (h : XcL X es ts r) : ∀ {σ : L2.St} {H : Hp} {Q : List V → Hp → Prop}, Q (ts.map (xcV X.K)) H → r σ H Q := by
  induction h with
  | nil => exact fun q => q
  | cons h _ hs ih => exact fun q => ih (Q := fun xs H2 => _) q
section
variable {X : Cx} {W : WX} {ow : Ow} {a da : Addr} {oe : Obj} {pn : List (Addr × Obj)} {c t : String} {es all fl ts : List String} {fs : List (String × D)} {i tk : Nat} {e0 b : Expr} {els : List Expr} {r : TA} {p tp pos : Pos} {x : Str}
theorem x_xis1 (E : ErsOk X.K es all fl) (hc : c ∈ es) (hz : Zc (.ref (ca X.K c)) (some da) oe) (hv : ∃ vs, oe.data = .fields vs) (hx : x = "isinstance") (hg : Gl (X.suite a ((a, oe) :: pn)) x) (hm : X.mg x = none) (he : PE (X.suite a ((a, oe) :: pn)) e0 (tVar i)) (hb : PE (X.suite a ((a, oe) :: pn)) b (tC (xcV X.K t)))
    (hs : starEach [e0, b] X.env = (false, eval e0 X.env) :: starEach [b] X.env := by rfl) (hs2 : starEach [b] X.env = [(false, eval b X.env)] := by rfl) (hpl : (backTo pos (starEach [b] X.env)).any (·.1) = false := by rfl) (hx0 : ow.x = some ⟨i, a, da, fs⟩ := by rfl) :
    PE (X.suite a ((a, oe) :: pn)) (.Call (.Name x p) [e0, b] [] pos) (tE X.K W ow (xis es all c [t])) := by
  subst hx
  refine PE.of (pe_callB (call_xis1 (E c hc) hz hv) hg hm (by decide +kernel) (pa_cons he (pa_cons hb pa_nil hs2) hs) (by decide) (by decide) hs hpl) fun σ H Q ⟨A, H0, O, en, R, q⟩ => ?_
  obtain ⟨_, h2, _, fvs, h4, _⟩ := R.exq ⟨i, a, da, fs⟩ hx0
  have q' : Out (xis es all c [t] en) _ _ := q
  unfold xis at q'
  split at q'
  · rename_i hk
    have ht : t ∈ all := by
      rw [Bool.and_eq_true] at hk
      simpa using hk.2
    exact ⟨.ref a, h2, xcV X.K t, xcU X.K t, _, fvs, rfl, xc_cls _ _, h4, (E c hc).kt t ht, q' _ H (Same.refl H) rep_bl⟩
  · exact q'.elim
theorem x_xfld {f : String} (E : ErsOk X.K es all fl) (hc : c ∈ es) (hz : Zc (.ref (ca X.K c)) (some da) oe) (hv : ∃ vs, oe.data = .fields vs) (he : PE (X.suite a ((a, oe) :: pn)) e0 (tVar i))
    (hb : attributeBase e0 (Str.ofString f) X.env (eval e0 X.env) = eval e0 X.env := by rfl) (hx0 : ow.x = some ⟨i, a, da, fs⟩ := by rfl) : PE (X.suite a ((a, oe) :: pn)) (.Attribute e0 (Str.ofString f) pos) (tE X.K W ow (xfld es fl c f fs)) := by
  have Ec := E c hc
  by_cases hf : f ∈ fl
  · refine PE.of (pe_xf ⟨Ec.ga, Ec.gg, Ec.be, Ec.hd⟩ (Ec.fl f hf) hz hv he hb) fun σ H Q ⟨A, H0, O, en, R, q⟩ => ?_
    obtain ⟨_, h2, _, fvs, h4, h5⟩ := R.exq ⟨i, a, da, fs⟩ hx0
    have q' : Out (xfld es fl c f fs en) _ _ := q
    unfold xfld at q'
    split at q'
    · have lk := h5.look (f := f)
      have h6 : ∀ o : Option D, fs.lookup f = o → _ := fun o e => e
      cases e : fs.lookup f with
      | none =>
        rw [e] at q'
        exact q'.elim
      | some d =>
        rw [e] at q'
        have lk2 : ∃ v, fvs.lookup (Str.ofString f) = some v ∧ Rep X.K (AO A O) H d v := by
          dsimp only at lk
          rw [e] at lk
          exact lk
        obtain ⟨v, e1, r1⟩ := lk2
        exact ⟨.ref a, h2, rfl, rfl, da, fvs, v, rfl, h4, e1, q' v H (Same.refl H) r1⟩
    · exact q'.elim
  · refine ⟨fun pins s σ H Q I ⟨A, H0, O, en, R, q⟩ => ?_⟩
    have q' : Out (xfld es fl c f fs en) _ _ := q
    unfold xfld at q'
    rw [if_neg (by simp [hf])] at q'
    exact q'.elim
end
theorem xc_glob {X : Cx} {t : String} {pos : Pos} (h : t ≠ "ValueError") (hg : Gl X (Str.ofString t)) (hm : X.mg (Str.ofString t) = some (.ref (ca X.K t))) (hd : (Str.ofString t == ("__debug__" : Str)) = false := by decide) : PE X (.Name (Str.ofString t) pos) (tC (xcV X.K t)) := by
  unfold xcV
  rw [if_neg h]
  exact pe_glob hg hm rfl hd
/-! ### an error's __init__, by the head -/
section
variable {P : Program} {w : World} {K : Frag} {mg : Str → Option Value} {base : Heap} {nm qual self txt : Str} {params : Arguments} {body rest : List Stmt} {scope : Scope} {N ps : List Str} {k : Nat} {ar : Arg} {c : String} {ns : List String}
theorem err_ok (F : ErrF P K c nm qual params body scope ns) (g : mg (Str.ofString c) = some (.ref (ca K c))) (hmg : mg "super" = none) (htop : (P.main.scope.names.lookup ("super" : Str)).isSome = false) (hps : ps = self :: ns.map Str.ofString) (S : NdefX.NScope N ps ["__class__"] scope)
    (har : (params.posonlyargs ++ params.args).head? = some ar) (hself : ar.arg = self) (hsk : scope.names.lookup ("super" : Str) = some .globalImplicit) {p0 p1 p2 p3 p4 p5 : Pos} {j : Nat}
    (hbody : body = .Expr (.Call (.Attribute (.Call (.Name "super" p0) [] [] p1) "__init__" p2) [.Constant (.str txt) j p3] [] p4) p5 :: rest)
    (hbind : ∀ (kV doc pm : Value) (an : Option Addr) (cdv ct : Value) (cc : Addr) (us : List Value), us.length = ps.length → bindArgs (PySem.W.ksFn nm qual params body scope .none kV doc pm an cdv ct cc) ⟨us, []⟩ = pure (ps.zip us))
    {t : TS} (hb : ∀ (f cc cda : Addr) (A : Around) (outer : List PySem.Env) (s : Shared) (H : Hp) (E : XK), PSs (NdefX.ncx (L2N.CX P w) P w K mg base N ⟨nm, qual, params, body, scope, [("__class__", cc)], cda⟩ f A outer s H E) rest t)
    (ht : ∀ (a : Addr) (ws : List V) (H1 : Hp) (Dn : Ends) (σ : L2.St), σ[0]? = some (some (.ref a)) → (∀ i v, ws[i]? = some v → σ[i + 1]? = some (some v)) → ws.length = ns.length → H1 a = none →
      (∀ d H2 σ', H2 a = some (exo a (ca K c) (some d)) → H2 d = some (exd d ((ns.map Str.ofString).zip ws).reverse) → H1 d = none → d ≠ a → (∀ b, b ≠ a → b ≠ d → H2 b = H1 b) → Dn.nx σ' H2) → t Dn σ (upd H1 a (exo a (ca K c) none)))
    (hin : ∀ (L f cda cc : Addr), interactive (PySem.W.ksEnv qual scope L f (.ref cda) cc) = false)
    (hsw : ∀ (L f cda cc : Addr), swapsWith (.Call (.Attribute (.Call (.Name "super" p0) [] [] p1) "__init__" p2) [.Constant (.str txt) j p3] [] p4) none p5.line (PySem.W.ksEnv qual scope L f (.ref cda) cc) = pure false)
    {pl : Addr → Addr → Addr → Sem Bool} (hea : ∀ (L f cda cc : Addr), eval (.Call (.Attribute (.Call (.Name "super" p0) [] [] p1) "__init__" p2) [.Constant (.str txt) j p3] [] p4) (PySem.W.ksEnv qual scope L f (.ref cda) cc) = (do
      let ov ← attributeBase (.Call (.Name "super" p0) [] [] p1) "__init__" (PySem.W.ksEnv qual scope L f (.ref cda) cc) (eval (.Call (.Name "super" p0) [] [] p1) (PySem.W.ksEnv qual scope L f (.ref cda) cc))
      standAt p2.atName
      let (g, first) ← holding [ov] (getMethod ov "__init__" (pl f cda cc))
      callWith p4 g first (backTo p4 (starEach [.Constant (.str txt) j p3] (PySem.W.ksEnv qual scope L f (.ref cda) cc))) []))
    (hst : ∀ (L f cda cc : Addr), starEach [.Constant (.str txt) j p3] (PySem.W.ksEnv qual scope L f (.ref cda) cc) = [(false, eval (.Constant (.str txt) j p3) (PySem.W.ksEnv qual scope L f (.ref cda) cc))]) :
    ErrOk P w K mg base (k + 1) c ns := by
  obtain ⟨⟨cc, cda, fd, XI, kV, doc, pm, an, ct, hfd⟩, hini, htyp, hno⟩ := F
  refine ⟨_, fd, ps, g, XI.T, hini, htyp, ?_, ?_⟩
  · rw [hfd]
    exact .all (hbind kV doc pm an _ ct cc)
  · exact xinit_ok XI hps (by simp) S har hself hmg hsk htop hbody (hb _ cc cda) ht (fun L => hin L _ _ _) (fun L => hsw L _ _ _) (fun L => hea L _ _ _) (fun L => hst L _ _ _)
end
/-! ### the hook, the facts -/
section
open He
theorem obsYG_eq {n : Nat} {more : Frag → Bool} {fa : List Fa} {fn xf : List DefD} {ts : List Tab} {g : Addr → Option Obj} {s : Shared} (h : ∀ a, g a = s.heap.get? a) : obsYG n more fa fn xf ts g = (hookY n more fa fn xf ts).obs s := by
  have e : g = s.heap.get? := funext h
  rw [e] <;> rfl
end
structure FactsY (fa : List Fa) (fn xf : List DefD) (ts : List Tab) (ms : List (Frag → Bool)) (file : Str) (P : Program) (w : World) (K : Frag) (mg : Str → Option Value) : Prop extends Facts fa fn ts ms w K mg where
  x : (xf.map fun d => fnWx K d.at_) = xf.map DefD.val
  pf : ((P.main.file : Str) == file) = true
  ps : (P.main.scope.names.lookup ("super" : Str)).isSome = false
section
variable {fa : List Fa} {fn xf : List DefD} {ts : List Tab} {ms : List (Frag → Bool)} {file : Str} {P : Program} {w : World} {K : Frag} {mg : Str → Option Value}
theorem FactsY.err (Y : FactsY fa fn xf ts ms file P w K mg) (i j : Nat) {d : DefD} {c : String} {fs : List String} (h : xf[i]? = some d := by rfl) (hat : d.at_ = (Str.ofString c, some ("__init__" : Str)) := by rfl) (hm : ms[j]? = some (errB file c d.qual fs) := by rfl) : ErrF P K c d.name d.qual d.params d.body d.scope fs := by
  refine err_f hat Y.pf ?_ (Y.toFacts.more j hm)
  have e2 : (xf.map fun d => fnWx K d.at_)[i]? = (xf.map DefD.val)[i]? := by rw [Y.x]
  rw [List.getElem?_map, List.getElem?_map, h] at e2
  exact Option.some.inj e2
end
end Py
/-! A tuple so many times. -/
/-! Lists and tuples walked within an except suite; except X as e for an own class X. -/
namespace Py
open PySem PySem.Spec PyProof.Rows L2 L2H HotX
theorem ex_ok {es : List String} {x : String} {K : Frag} (h : exB es x K = true) : ∀ c ∈ es, PySem.W.exmOne K (.ref (ca K c)) (.ref (ca K x)) = some (decide (c = x)) := fun c hc => of_decide_eq_true (List.all_eq_true.mp h c hc)
section
variable {fr : Rm} {X : Cx} {W : WX} {ow oN oB : Ow} {body suite : List Stmt} {b₀ : Stmt} {u : SM} {h : String → List (String × D) → SM} {np pos pos' : Pos} {j i : Nat} {es all fl : List String} {n : Str} {x : String}
theorem s_tryX (T : Ctx X W j) (E : ErsOk X.K es all fl) (hex : ∀ c ∈ es, PySem.W.exmOne X.K (.ref (ca X.K c)) (.ref (ca X.K x)) = some (decide (c = x))) (hbe : X.mg (Str.ofString x) = some (.ref (ca X.K x))) (hg : Gl X (Str.ofString x)) (hi : X.N[i]? = some n) (hw : ow i = false) (ho : ow.x = none) (hoN : oN.x = none)
    (hb : ∀ (W' : WX) (pn : List (Addr × Obj)) (xe : Value → Shared → Prop), Ctx (X.tr pn xe) W' j → PSs (X.tr pn xe) body (tB fr X.K W' ow oN oB u))
    (hsu : ∀ (a : Addr) (oe : Obj) (c : String) (da : Addr) (fs : List (String × D)) (pn : List (Addr × Obj)), c ∈ es → Zc (.ref (ca X.K c)) (some da) oe → (∃ vs, oe.data = .fields vs) → CtxH (X.suite a ((a, oe) :: pn)) W0 j →
      PSs (X.suite a ((a, oe) :: pn)) (b₀ :: suite) (tS3 fr X.K W0 (ow.hold i a da fs) (oN.hold i a da fs) (oB.hold i a da fs) (h c fs)))
    (hdb : (Str.ofString x == ("__debug__" : Str)) = false := by decide) (hs : X.stack = X.env :: X.outer := by rfl) (hf : X.env.frame = some X.env.locals := by rfl) (hln : X.env.kindOf n = some .local := by rfl) :
    PS X (.Try body [.ExceptHandler (some (.Name (Str.ofString x) np)) (some n) (b₀ :: suite) pos'] [] [] pos) (tS3 fr X.K W ow oN oB (tryX x es i u h)) := by
  refine PS.of (L2N.ps_try_as (c := .ref (ca X.K x)) (i := i) (ts := fun a cls d Dn σ H => ∃ (c : String) (da : Addr) (fs : List (String × D)), c ∈ es ∧ cls = .ref (ca X.K c) ∧ d = some da ∧ tS3 fr X.K W0 (ow.hold i a da fs) (oN.hold i a da fs) (oB.hold i a da fs) (h c fs) Dn σ H) (tb := fun W' => tB fr X.K W' ow oN oB u)
    hs hf T.nd hi hln ⟨hg, hdb, .inl hbe⟩ T.tk (fun W' pn xe tk po => hb W' pn xe (T.tr tk po)) fun a oe cls d pn hz hv => ⟨fun pins s σ H D I q => ?_⟩) fun D σ H ⟨A, H0, O, en, R, q⟩ => ?_
  · obtain ⟨c, da, fs, hc, rfl, rfl, q⟩ := q
    obtain ⟨vs, hvs⟩ := hv
    exact (hsu a oe c da fs pn hc hz.zc ⟨vs, hvs⟩ ⟨takes0N, PassesOwn.never, ⟨T.hr.dp, T.hr.un⟩, ⟨(a, oe), ⟨rfl, vs, hvs, hz.2.2 vs hvs⟩, List.mem_cons_self⟩, T.nd⟩).run pins s σ H D I q
  · refine ⟨A, H0, O, en, R, ?_⟩
    have q' : Out (tryX x es i u h en) (EndOk3 fr X.K A H0 oN oB O H D) (badS X.K W A H0) := q
    unfold tryX at q'
    refine q'.catch.imp (fun f _ z => z) fun c fs q' => ?_
    · split at q'
      · rename_i hc0
        rw [Bool.and_eq_true, decide_eq_true_eq] at hc0
        have hc : c ∈ es := by simpa using hc0.1
        have hlt : i < σ.length := by rw [R.len]; exact hc0.2
        intro da H' fvs s' hd r
        by_cases hcx : c = x
        · rw [if_pos hcx] at q'
          refine ⟨true, by rw [hex c hc, decide_eq_true hcx], fun _ a ha => ⟨c, da, fs, hc, rfl, rfl, A, H0, O, en.set i none, (R.to s').catch ho hlt hd r hw, (Out.bind q').noexc.good fun f q' => ?_⟩, fun z => nomatch z⟩
          cases f with
          | next e' =>
            have q2 : EndOk3 fr X.K A H0 oN oB O H D (.next (e'.set i none)) := q'
            exact fun O' σ' H2 R' mv => q2 O' _ H2 (ER.uncatch R' hoN) ((Mv.same s').trans mv)
          | ret d =>
            have q2 : EndOk3 fr X.K A H0 oN oB O H D (.ret d) := q'
            exact q2
          | brk e' => exact q'.elim
          | cnt e' => exact q'.elim
        · rw [if_neg hcx] at q'
          refine ⟨false, by rw [hex c hc, decide_eq_false hcx], fun z => (nomatch z), fun _ => ?_⟩
          have q2 : badS X.K W A H0 c fs := q'
          exact q2 σ da H' fvs (R.same.trans s') hd (RepF.move (Mv.less fun b => .inl) _ _ r)
      · exact q'.elim
end
end Py
/-! Dict displays, list(range(..)), max and min of a list, starred items, extend. -/
namespace Py
open PySem PySem.Spec PyProof.Rows L2
theorem Ctx.inn {X : Cx} {W : WX} {k : Nat} (T : Ctx X W k) : OpR X (compareOp .In) (r2 X.K oin) := y_in (by have := T.hr.un; omega)
theorem Ctx.nin {X : Cx} {W : WX} {k : Nat} (T : Ctx X W k) : OpR X (compareOp .NotIn) (r2 X.K onotin) := y_notin (by have := T.hr.un; omega)
theorem Ctx.ix {X : Cx} {W : WX} {k : Nat} (T : Ctx X W k) : IxR X (r2 X.K oidx) := y_idx (by have := T.hr.un; omega)
theorem Ctx.st {X : Cx} {W : WX} {k : Nat} (T : Ctx X W k) : PSet X (rSetX X.K) := set_any (by have := T.hr.un; omega)
theorem CtxH.inn {X : Cx} {W : WX} {k : Nat} (T : CtxH X W k) : OpR X (compareOp .In) (r2 X.K oin) := y_in (by have := T.hr.un; omega)
theorem CtxH.nin {X : Cx} {W : WX} {k : Nat} (T : CtxH X W k) : OpR X (compareOp .NotIn) (r2 X.K onotin) := y_notin (by have := T.hr.un; omega)
theorem CtxH.ix {X : Cx} {W : WX} {k : Nat} (T : CtxH X W k) : IxR X (r2 X.K oidx) := y_idx (by have := T.hr.un; omega)
theorem CtxH.st {X : Cx} {W : WX} {k : Nat} (T : CtxH X W k) : PSet X (rSetX X.K) := set_any (by have := T.hr.un; omega)
/-! ### {} and {k: v} -/
theorem dicT_stay {a : Addr} {es : List (NestedKey × Addr × V)} {P : Program} {w : World} {H : Hp} {h : Heap} (h1 : (a == sysModules) = false) (h2 : es.length ≤ sizeLine) {xs : List (NestedKey × Addr × Value)} (p : PT3 es xs) {o : Obj} {en : Array DictEntry} {ep : Nat}
    (g1 : h.get? a = some o) (g2 : o.ExactDict) (g3 : o.data = .dict en ep) (g4 : ∀ w : World, en.toList = xs.map (entW w)) (g5 : (xs.map (·.1)).Nodup) : ObjOk P w H h a (dicT a es) := by
  refine ⟨⟨h1, h2, xs, p, o, en, ep, g1, g2, g3, g4, g5⟩, ⟨o, g1⟩, ?_⟩
  rintro h1 h2 ⟨y1, y2, xs', y3, o', en2, ep2, z1, z2⟩ hk2
  exact ⟨y1, y2, xs', y3, o', en2, ep2, hk2 _ z1, z2⟩
theorem dicT_empty {P : Program} {w : World} {H : Hp} (h : Heap) (hb : sysModules < h.objs.size) : ObjOk P w H (h.push { cls := .type "dict", data := .dict #[] }) h.objs.size (dicT h.objs.size []) :=
  dicT_stay (beq_eq_false_iff_ne.mpr (Nat.ne_of_gt hb)) (Nat.zero_le _) .nil (Heap.get?_push_size _ rfl) ⟨rfl, rfl, rfl⟩ rfl (fun _ => rfl) List.nodup_nil
section
variable {X : Cx} {W : WX} {ow : Ow} {k v : Expr} {mk mv : EM} {pos : Pos}
theorem mv_disp {A : AS} {O : OW} {H2 : Hp} {p : Addr} {u o : HO} (e2 : H2 p = some u) (hu : ¬ still u) : Mv (AO (fun b => A b ∨ b = p) O) H2 (fun b => AO A O b ∨ b = p) (upd H2 p o) := ⟨fun b hb => .inl (by
    rcases hb with (hb | hb) | hb
    · exact .inl (.inl hb)
    · exact .inr hb
    · exact .inl (.inr hb)), fun b o' e hb => by
    rw [upd_ne]
    · exact e
    · intro z
      subst z
      rcases hb with hb | hb
      · exact hb (.inl (.inr rfl))
      · rw [e2] at e
        cases e
        exact hu hb⟩
theorem ER.aside {K : Frag} {A : AS} {H0 : Base} {O : OW} {σ : L2.St} {H : Hp} {e : Env} (R : ER K A H0 ow O σ H e) {p : Addr} {o : HO} (hp : H p = none) : ER K (fun b => A b ∨ b = p) H0 ow O σ (upd H p o) e :=
  R.more (fun b hb => by
    rcases hb with hb | hb
    · exact ne_none (new_same hp) (R.a0 b hb)
    · rw [hb, upd_same]
      exact fun z => nomatch z) (new_same hp) (fun b hb => hb.elim .inl fun z => by rw [z]; exact .inr hp) fun b hb => .inl hb
/-- errors within: seen from before -/
theorem badE.aside {K : Frag} {A : AS} {O : OW} {σ : L2.St} {H : Hp} {p : Addr} {o : HO} (hp : H p = none) {c : String} {fs : List (String × D)} (h : badE K W A O σ H c fs) : badE K W (fun b => A b ∨ b = p) O σ (upd H p o) c fs := fun da H' fvs s hd r =>
  h da H' fvs ((new_same hp).trans s) hd (RepF.move (Mv.less fun b hb => by
    rcases hb with hb | hb
    · exact .inl (.inl hb)
    · exact .inr hb) _ _ r)
def tDicT (tk tv : TE) : TE := fun σ H Q => ∀ p, H p = none → tk σ (upd H p (dicT p [])) fun x H1 => tv σ H1 fun y H2 => H2 p = some (dicT p []) ∧ ∃ (K : Frag) (A : AS) (kd : D) (c : NestedKey) (b : Addr), K = X.K ∧ x = .ref b ∧ keyOk true kd = true ∧ nk kd = some c ∧ Rep K A H2 kd x ∧ Q (.ref p) (upd H2 p (dicT p [(c, b, y)]))
theorem pe_dicT {tk tv : TE} (hu : X.A.units + 16 < cLine) (hk : PE X k tk) (hv : PE X v tv) : PE X (.Dict [some k] [v] pos) (tDicT (X := X) tk tv) := by
  refine ⟨fun pins s σ H Q I q => ?_⟩
  have hn := I.hok.fresh (Nat.le_refl s.heap.objs.size)
  have I1 := I.laid (a := s.heap.objs.size) (o := dicT s.heap.objs.size []) (h' := s.heap.push { cls := .type "dict", data := .dict #[] }) (t' := s.toks) (fun _ _ q => Heap.get?_push_of_some _ q) (Nat.le_refl _) (dicT_empty s.heap I.big)
  show wpAny (model X.prog X.w) X.A (eval (.Dict [some k] [v] pos) X.env) _ _ s
  rw [arm_eval_Dict, zip_pairTrees [some k] [v] X.env pos rfl rfl, dictDisplay_pairs _ (by simp [pairTrees]) (by simp [pairTrees])]
  refine wpAny_bind (wpAny_standAt (wpAny_bind (wpAny_subDictH (knd := nestedKind X.prog X.w) (Q := fun d s' => wpAny (model X.prog X.w) X.A (pure (Value.ref d)) _ _ s') (by show X.A.units + 8 < cLine; omega) (by simp [pairTrees]) ?_)))
  refine pairTrees_cons_walk (thn (hk.run pins _ σ _ _ I1 (q _ hn)) fun u s1 ⟨x, H1, I2, rx, q1⟩ => thn (hv.run pins s1 σ H1 _ I2 q1) fun w2 s2 ⟨y, H2, I3, ry, e, K, A, kd, c, b, eK, ex, hko, hc, rk, q2⟩ => pairTrees_nil_walk ?_)
  subst eK ex
  cases (show u = Value.ref b from rx)
  obtain ⟨z, hsm, xs, rel, dd, _⟩ := dic_rd (A := A) (kvs := []) I3 e (by simp [RepT])
  cases rel
  refine ⟨[(c, b, w2)], ⟨rfl, rfl, is_of I3 hko hc rk, trivial⟩, dd, fun h' tk dd' hs => wpAny_pure ⟨.ref s.heap.objs.size, _, ?_, rfl, q2⟩⟩
  obtain ⟨o0, en, ep, g1, g2, g3, g4, _, g5⟩ := dd'
  refine d_write I3 (by rw [e]; exact True.intro) hs ⟨o0, g1⟩ (dicT_stay hsm (by rw [sizeLine_eq]; simp) (xs := [(c, b, w2)]) (.cons ⟨rfl, rfl, ry⟩ .nil) g1 g2 g3 (fun w => ?_) (by simp))
  have g4' : en.toList = [(c, b, w2)].map (entW X.w) := g4
  rw [g4']
  exact ent_any (es := [(c, b, y)]) (.cons ⟨rfl, rfl, ry⟩ .nil) fun x hx => by
    rw [List.mem_singleton.mp hx]
    exact nk_hash _ _ kd c hc
/-- {k: v}, k a tuple -/
theorem f_dicT (hu : X.A.units + 16 < cLine) (hk : PE X k (tE X.K W ow mk)) (hv : PE X v (tE X.K W ow mv)) : PE X (.Dict [some k] [v] pos) (tF X.K W ow (dic1 true mk mv)) :=
  PE.of (pe_dicT hu hk hv) fun σ H Q ⟨A, H0, O, en, R, q⟩ p hp => by
    have R' := R.aside (o := dicT p []) hp
    refine ⟨_, H0, O, en, R', ((Out.bind q).imp (fun _ _ z => z) fun c fs z => badE.aside hp z).good fun kd q1 x H1 s1 r1 => ⟨_, H0, O, en, R'.to s1, (((Out.bind q1).imp (fun _ _ z => z) fun c fs z => badE.aside (o := dicT p []) hp z).to s1).good fun vd q2 y H2 s2 r2 => ?_⟩⟩
    have e2 : H2 p = some (dicT p []) := s2 _ _ (s1 _ _ upd_same)
    refine ⟨e2, ?_⟩
    split at q2
    · rename_i hko
      obtain ⟨c, hc, _⟩ := keyT hko
      have r1' := Rep.move (Mv.same s2) _ _ r1
      have hb : ∃ b, x = .ref b := by
        cases kd with
        | tup xs' =>
          simp only [Rep] at r1'
          obtain ⟨b, vs, rfl, _⟩ := r1'
          exact ⟨b, rfl⟩
        | _ => simp [keyOk] at hko
      obtain ⟨b, rfl⟩ := hb
      refine ⟨X.K, _, kd, c, b, rfl, rfl, hko, hc, r1', ?_⟩
      have s3 : Same H (upd H2 p (dicT p [(c, b, y)])) := fun b o e => by
        rw [upd_ne fun z => by
          subst z
          rw [hp] at e
          cases e]
        exact s2 _ _ (s1 _ _ (new_same hp _ _ e))
      have mv := mv_disp (A := A) (O := O) (o := dicT p [(c, b, y)]) e2 fun z => z
      refine q2 p _ hp s3 (.inr ⟨rfl, [(c, b, y)], upd_same, ?_⟩)
      simp only [RepT]
      exact ⟨c, b, y, [], rfl, ⟨hc, hko⟩, Rep.move mv _ _ r1', Rep.move mv _ _ r2, rfl⟩
    · exact q2.elim
end
/-! ### list(range(..)) -/
section
variable {X : Cx} {W : WX} {ow : Ow} {a b e : Expr} {es : List Expr} {m ma mb : EM} {am : AM} {pos p p2 : Pos}
theorem new_own {K : Frag} {A : AS} {H : Hp} {p : Addr} {ds : List D} {vs : List V} (hp : H p = none) (r : RepL K A H ds vs) : OwnAt K (fun b => A b ∨ b = p) (upd H p (.lst vs)) p (.lst ds) :=
  ⟨vs, upd_same, RepL.move ⟨fun b hb => by
      rcases hb with hb | rfl
      · exact .inl hb
      · exact .inr hp, fun b o e _ => new_same hp b o e⟩ _ _ r⟩
/-! ### starred items -/
end
end Py
namespace Py
theorem Ctx.dh {X : L2.Cx} {W : L2.WX} {k : Nat} (T : Ctx X W k) : X.A.units + 16 < PySem.cLine := by have := T.hr.un; omega
end Py
/-! max, min of a list; extend; ranges with a step. -/
/-! len(x) by an own __len__. -/
/-! Lists of new lists, filled at drawn places. -/
namespace Py
open PySem L2
/-- lists of numbers, all of them new: where they stand -/
structure Nst (H : Hp) (a : Addr) (as : List Addr) (zss : List (List Int)) : Prop where
  out : H a = some (.lst (as.map V.ref))
  nd : as.Nodup
  no : a ∉ as
  len : as.length = zss.length
  inn : ∀ (k : Nat) (b : Addr) (zs : List Int), as[k]? = some b → zss[k]? = some zs → H b = some (.lst (zs.map V.int))
theorem Nst.same {H H' : Hp} {a : Addr} {as : List Addr} {zss : List (List Int)} (h : Nst H a as zss) (s : Same H H') : Nst H' a as zss :=
  ⟨s _ _ h.out, h.nd, h.no, h.len, fun k b zs h1 h2 => s _ _ (h.inn k b zs h1 h2)⟩
theorem repL_ints {K : Frag} {A : AS} {H : Hp} : ∀ zs : List Int, RepL K A H (zs.map D.int) (zs.map V.int)
  | [] => rfl
  | z :: zs => ⟨.int z, zs.map V.int, rfl, rfl, repL_ints zs⟩
theorem Nst.rep {K : Frag} {A : AS} {H : Hp} {a : Addr} {as : List Addr} {zss : List (List Int)} (h : Nst H a as zss) (na : ¬ A a) (nb : ∀ b ∈ as, ¬ A b) : Rep K A H (.lst (zss.map fun (zs : List Int) => D.lst (zs.map D.int))) (.ref a) := by
  have key : ∀ (as : List Addr) (zss : List (List Int)), as.length = zss.length → (∀ b ∈ as, ¬ A b) → (∀ (k : Nat) (b : Addr) (zs : List Int), as[k]? = some b → zss[k]? = some zs → H b = some (.lst (zs.map V.int))) → RepL K A H (zss.map fun (zs : List Int) => D.lst (zs.map D.int)) (as.map V.ref) := by
    intro as
    induction as with
    | nil =>
      intro zss hl _ _
      cases zss with
      | nil => rfl
      | cons z zs => simp at hl
    | cons b as ih =>
      intro zss hl hb hi
      cases zss with
      | nil => simp at hl
      | cons zs zss =>
        refine ⟨.ref b, as.map V.ref, rfl, ⟨b, _, rfl, hb b List.mem_cons_self, .inl (hi 0 b zs rfl rfl), repL_ints zs⟩, ih zss (by simpa using hl) (fun c hc => hb c (List.mem_cons_of_mem _ hc)) fun k c ws h1 h2 => hi (k + 1) c ws h1 h2⟩
  exact ⟨a, _, rfl, na, .inl h.out, key as zss h.len nb h.inn⟩
end Py
/-! .. filled by a loop. -/
namespace PySem
open Builtin
end PySem
/-! list(zip(*x)): zip over any number of lists and tuples of one length. -/
namespace Py
open PySem PySem.Spec PyProof.Rows L2
theorem zn_typeCall (l : List Value) : checkTypeCall "zip" ⟨l, []⟩ = pure () := by kernel_rfl
theorem zn_newCall (l : List Value) : checkBuiltinCall "zip.__new__" ⟨.type "zip" :: l, []⟩ = pure () := by
  cases l with
  | nil => kernel_rfl
  | cons a r => kernel_rfl
theorem zn_initArgs (obj : Value) (l : List Value) : argsOk "object.__init__" ⟨obj :: l, []⟩ := by unfold argsOk; kernel_rfl
theorem zn_no_len : typeLookup (.type "zip") "__len__" = pure none := by rw [typeLookup_type, builtinLookup_eq_fast]; kernel_rfl
theorem zn_no_hint : typeLookup (.type "zip") "__length_hint__" = pure none := by rw [typeLookup_type, builtinLookup_eq_fast]; kernel_rfl
abbrev Col := Bool × Nat × Array Value
def cref (c : Col) : Value := .ref c.2.1
def refs (n0 n : Nat) : List Value := (List.range n).map fun m => Value.ref (n0 + m)
theorem refs_len (n0 n : Nat) : (refs n0 n).length = n := by simp [refs]
def pushAll (h : Heap) : List Col → Heap
  | [] => h
  | c :: r => pushAll (h.push (zi c.1 c.2.1)) r
theorem pushAll_size : ∀ (cs : List Col) (h : Heap), (pushAll h cs).objs.size = h.objs.size + cs.length
  | [], h => rfl
  | c :: cs, h => by
    rw [pushAll, pushAll_size cs, Heap.size_push, List.length_cons]
    omega
theorem pushAll_old : ∀ (cs : List Col) (h : Heap) {a : Addr} {o : Obj}, h.get? a = some o → (pushAll h cs).get? a = some o
  | [], h, a, o, e => e
  | c :: cs, h, a, o, e => pushAll_old cs _ (Heap.get?_push_of_some _ e)
theorem pushAll_at : ∀ (cs : List Col) (h : Heap) (m : Nat) (c : Col), cs[m]? = some c → (pushAll h cs).get? (h.objs.size + m) = some (zi c.1 c.2.1)
  | [], h, m, c, e => by simp at e
  | c0 :: cs, h, 0, c, e => by
    cases e
    exact pushAll_old cs _ (Heap.get?_push_size _ (by cases c0.1 <;> rfl))
  | c0 :: cs, h, m + 1, c, e => by
    have := pushAll_at cs (h.push (zi c0.1 c0.2.1)) m c e
    rw [Heap.size_push] at this
    rw [pushAll, show h.objs.size + (m + 1) = h.objs.size + 1 + m by omega]
    exact this
theorem zi_at {k : Bool} {h : Heap} {a l : Addr} (e : h.get? a = some (zi k l)) : IAt k h a l 0 := by
  cases k with
  | true => exact ⟨_, e, rfl, rfl⟩
  | false => exact ⟨_, e, rfl, rfl⟩
section
variable {prog : Program} {w : World} {A : Around} {E : Value → Shared → Prop} {s : Shared}
theorem iter_loopN {Q : Array Value → Shared → Prop} : ∀ (cs : List Col) (acc : Array Value) (s : Shared), (∀ c ∈ cs, SAt c.1 s.heap c.2.1 c.2.2) → Q (acc ++ (refs s.heap.objs.size cs.length).toArray) { s with heap := pushAll s.heap cs } →
    wpAny (model prog w) A (forIn (cs.map cref) acc fun x its => do
      let r ← holding its.toList (pyIter x)
      pure (ForInStep.yield (its.push r))) Q E s
  | [], acc, s, _, q => by
    rw [List.map_nil, List.forIn_nil]
    have e : acc ++ (refs s.heap.objs.size 0).toArray = acc := by simp [refs]
    rw [List.length_nil, e] at q
    exact wpAny_pure q
  | c :: cs, acc, s, hs, q => by
    rw [List.map_cons, List.forIn_cons]
    refine wpAny_bind (wpAny_bind (wpAny_holding (iter_new (hs c List.mem_cons_self) (wpAny_pure ?_))))
    refine iter_loopN cs _ _ (fun d hd => (hs d (List.mem_cons_of_mem _ hd)).up fun o e => Heap.get?_push_of_some _ e) ?_
    have e : acc.push (.ref s.heap.objs.size) ++ (refs (s.heap.push (zi c.1 c.2.1)).objs.size cs.length).toArray = acc ++ (refs s.heap.objs.size (c :: cs).length).toArray := by
      rw [Heap.size_push, List.length_cons]
      unfold refs
      rw [List.range_succ_eq_map, List.map_cons, List.map_map]
      apply Array.ext'
      simp
      intro a _
      show (s.heap.objs.size + 1 + _ : Nat) = _
      omega
    show Q (acc.push (.ref s.heap.objs.size) ++ (refs (s.heap.push (zi c.1 c.2.1)).objs.size cs.length).toArray) _
    rw [e]
    exact q
theorem iterAllN {Q : List Value → Shared → Prop} (cs : List Col) (hs : ∀ c ∈ cs, SAt c.1 s.heap c.2.1 c.2.2) (q : Q (refs s.heap.objs.size cs.length) { s with heap := pushAll s.heap cs }) : wpAny (model prog w) A (Builtin.SmallTypes.iterAll (cs.map cref)) Q E s := by
  delta Builtin.SmallTypes.iterAll
  refine wpAny_bind (iter_loopN cs #[] s hs (wpAny_pure ?_))
  simpa using q
end
/-- the heap behind zip(..) -/
def zhN (h : Heap) (cs : List Col) : Heap :=
  let a := pushAll h cs
  let b := a.push { cls := .type "tuple", data := .seq (refs h.objs.size cs.length).toArray }
  let c := b.push { cls := .type "tuple", data := .seq ((refs h.objs.size cs.length).map fun _ => Value.none).toArray }
  c.push { cls := .type "zip", data := .fields #[.none, .bool false, .bool false, .ref a.objs.size, .ref b.objs.size] }
theorem meets_zipN (cs : List Col) (hz : cs.length ≤ 1000) : Meets (Builtin.«zip.__new__» ⟨.type "zip" :: cs.map cref, []⟩) (fun _ R s => (∀ c ∈ cs, SAt c.1 s.heap c.2.1 c.2.2) ∧ R (.ok (.ret (.ref (s.heap.objs.size + cs.length + 2)))) { s with heap := zhN s.heap cs }) := .of_wp fun prog w A R s h => by
  obtain ⟨hs, h⟩ := h
  have sub := sub_zip
  obtain ⟨hp, g, d, tk, os⟩ := s
  have z1 : (refs hp.objs.size cs.length).length ≤ sizeLine := by rw [refs_len]; exact Nat.le_trans hz (by decide)
  have z2 : ((refs hp.objs.size cs.length).map fun _ => Value.none).length ≤ sizeLine := by rw [List.length_map]; exact z1
  have z : ∀ {A' : Around} {E : Value → Shared → Prop} {Q : List Value → Shared → Prop}, Q (refs hp.objs.size cs.length) ⟨pushAll hp cs, g, d, tk, os⟩ → wpAny (model prog w) A' (Builtin.SmallTypes.iterAll (cs.map cref)) Q E ⟨hp, g, d, tk, os⟩ := fun q => iterAllN (s := ⟨hp, g, d, tk, os⟩) cs hs q
  wp_walk using z
  have e : (((pushAll hp cs).push { cls := Value.type "tuple", data := Data.seq (refs hp.objs.size cs.length).toArray }).push { cls := Value.type "tuple", data := Data.seq (List.map (fun x => Value.none) (refs hp.objs.size cs.length)).toArray }).objs.size = hp.objs.size + cs.length + 2 := by
    rw [Heap.size_push, Heap.size_push, pushAll_size]
  refine ⟨_, rfl, ?_⟩
  rw [e]
  exact h
/-- a zip over columns at n0: f0, f1: what it knows of the tuple given out -/
structure ZAt (h : Heap) (n0 : Nat) (cs : List Col) (i : Nat → Nat) (f0 f1 : Value) : Prop where
  it : ∀ (m : Nat) (c : Col), cs[m]? = some c → IAt c.1 h (n0 + m) c.2.1 (i m)
  sq : ∀ (m : Nat) (c : Col), cs[m]? = some c → SAt c.1 h c.2.1 c.2.2 ∧ c.2.1 < n0
  ti : h.get? (n0 + cs.length) = some { cls := .type "tuple", data := .seq (refs n0 cs.length).toArray }
  ob : h.get? (n0 + cs.length + 2) = some { cls := .type "zip", data := .fields #[f0, f1, .bool false, .ref (n0 + cs.length), .ref (n0 + cs.length + 1)] }
theorem ZAt.up {h h' : Heap} {n0 : Nat} {cs : List Col} {i : Nat → Nat} {f0 f1 : Value} (z : ZAt h n0 cs i f0 f1) (k : ∀ a o, h.get? a = some o → h'.get? a = some o) : ZAt h' n0 cs i f0 f1 :=
  ⟨fun m c e => (z.it m c e).up (k _), fun m c e => ⟨(z.sq m c e).1.up (k _), (z.sq m c e).2⟩, k _ _ z.ti, k _ _ z.ob⟩
def TOAt (h : Heap) (n0 : Nat) (cs : List Col) : Prop := ∃ vs : Array Value, vs.size = cs.length ∧ h.get? (n0 + cs.length + 1) = some { cls := .type "tuple", data := .seq vs }
section
variable {prog : Program} {w : World} {A : Around} {E : Value → Shared → Prop} {s : Shared}
theorem zipN_call {cs : List Col} (hz : cs.length ≤ 1000) {Q : Value → Shared → Prop} (hs : ∀ c ∈ cs, SAt c.1 s.heap c.2.1 c.2.2 ∧ c.2.1 < s.heap.objs.size)
    (h : ∀ h', ZAt h' s.heap.objs.size cs (fun _ => 0) .none (.bool false) → TOAt h' s.heap.objs.size cs → h'.objs.size = s.heap.objs.size + cs.length + 3 → (∀ c o, s.heap.get? c = some o → h'.get? c = some o) → Q (.ref (s.heap.objs.size + cs.length + 2)) { s with heap := h' }) :
    wpAny (model prog w) A (PySem.call (.type "zip") (cs.map cref)) Q E s := by
  refine callType_new F.called_zip (by decide) (zn_typeCall _) (zn_newCall _) (fun obj => zn_initArgs obj _) F.entry_zip_new (meets_zipN cs hz) ⟨fun c hc => (hs c hc).1, ?_⟩
  generalize hn : s.heap.objs.size = n at *
  have sa : (pushAll s.heap cs).objs.size = n + cs.length := by rw [pushAll_size, hn]
  have old : ∀ c o, s.heap.get? c = some o → (zhN s.heap cs).get? c = some o := fun c o e => Heap.get?_push_of_some _ (Heap.get?_push_of_some _ (Heap.get?_push_of_some _ (pushAll_old cs _ e)))
  have g1 : (zhN s.heap cs).get? (n + cs.length) = some { cls := .type "tuple", data := .seq (refs n cs.length).toArray } := by
    refine Heap.get?_push_of_some _ (Heap.get?_push_of_some _ ?_)
    rw [← sa, ← hn]
    exact Heap.get?_push_size _ rfl
  have sb : ((pushAll s.heap cs).push { cls := .type "tuple", data := .seq (refs s.heap.objs.size cs.length).toArray }).objs.size = n + cs.length + 1 := by rw [Heap.size_push, sa]
  have g2 : (zhN s.heap cs).get? (n + cs.length + 1) = some { cls := .type "tuple", data := .seq ((refs n cs.length).map fun _ => Value.none).toArray } := by
    refine Heap.get?_push_of_some _ ?_
    rw [← sb, ← hn]
    exact Heap.get?_push_size _ rfl
  have sc : (((pushAll s.heap cs).push { cls := .type "tuple", data := .seq (refs s.heap.objs.size cs.length).toArray }).push { cls := .type "tuple", data := .seq ((refs s.heap.objs.size cs.length).map fun _ => Value.none).toArray }).objs.size = n + cs.length + 2 := by rw [Heap.size_push, sb]
  have g3 : (zhN s.heap cs).get? (n + cs.length + 2) = some { cls := .type "zip", data := .fields #[.none, .bool false, .bool false, .ref (n + cs.length), .ref (n + cs.length + 1)] } := by
    have q : (zhN s.heap cs).get? (((pushAll s.heap cs).push { cls := .type "tuple", data := .seq (refs s.heap.objs.size cs.length).toArray }).push { cls := .type "tuple", data := .seq ((refs s.heap.objs.size cs.length).map fun _ => Value.none).toArray }).objs.size = some { cls := .type "zip", data := .fields #[.none, .bool false, .bool false, .ref (pushAll s.heap cs).objs.size, .ref ((pushAll s.heap cs).push { cls := .type "tuple", data := .seq (refs s.heap.objs.size cs.length).toArray }).objs.size] } := Heap.get?_push_size _ rfl
    rw [sc, sa, sb] at q
    exact q
  refine ⟨⟨_, g3, rfl⟩, h _ ⟨fun m c e => zi_at ?_, fun m c e => ⟨(hs c (List.mem_of_getElem? e)).1.up (old _), (hs c (List.mem_of_getElem? e)).2⟩, g1, g3⟩ ⟨_, by simp [refs], g2⟩ ?_ old⟩
  · refine Heap.get?_push_of_some _ (Heap.get?_push_of_some _ (Heap.get?_push_of_some _ ?_))
    rw [← hn]
    exact pushAll_at cs _ m c e
  · show (zhN s.heap cs).objs.size = _
    unfold zhN
    rw [Heap.size_push, sc]
/-! ### a turn -/
theorem upd_tup {T : Addr} {vs : Array Value} {f : Array Value → Array Value} {Q : Unit → Shared → Prop} (hT : s.heap.get? T = some { cls := .type "tuple", data := .seq vs }) (hz : vs.size ≤ 1000) (hf : (f vs).size = vs.size)
    (h : ∀ h', h'.get? T = some { cls := .type "tuple", data := .seq (f vs) } → Heap.SameBut T s.heap h' → Q () { s with heap := h' }) :
    wpAny (model prog w) A (updateSeq T f) Q E s := by
  refine wpAny_updateSeq hT rfl (h _ ?_ (Heap.SameBut.update ..)) (Nat.le_trans hz (by decide)) (by rw [hf]; exact Nat.le_trans hz (by decide))
  rw [Heap.get?_update_self _ hT rfl]
  simp [Obj.mapSeq, hf]
end
end Py
/-! A turn of a zip over any number of columns. -/
namespace Py
open PySem PySem.Spec PyProof.Rows L2
/-- outside the zip's own objects -/
def Off (n0 : Nat) (cs : List Col) (a : Nat) : Prop := a < n0 ∨ n0 + cs.length + 3 ≤ a
def Kp (n0 : Nat) (cs : List Col) (h h' : Heap) : Prop := ∀ (a : Nat) o, Off n0 cs a → h.get? a = some o → h'.get? a = some o
theorem ZAt.but {h h' : Heap} {n0 : Nat} {cs : List Col} {i : Nat → Nat} {f0 f1 : Value} {a : Nat} (z : ZAt h n0 cs i f0 f1) (b : Heap.SameBut a h h') (ha : a = n0 + cs.length + 1 ∨ n0 + cs.length + 3 ≤ a) : ZAt h' n0 cs i f0 f1 := by
  have k : ∀ {c : Addr} {o : Obj}, c ≠ a → h.get? c = some o → h'.get? c = some o := fun ne e => (b.2 _ ne).trans e
  have lt : ∀ {m : Nat} {c : Col}, cs[m]? = some c → m < cs.length := fun e => (List.getElem?_eq_some_iff.mp e).1
  refine ⟨fun m c e => (z.it m c e).up fun o q => k ?_ q, fun m c e => ⟨(z.sq m c e).1.up fun o q => k ?_ q, (z.sq m c e).2⟩, k ?_ z.ti, k ?_ z.ob⟩
  · have := lt e
    intro q
    have q' : @Eq Nat (n0 + m) (a) := q
    omega
  · have := (z.sq m c e).2
    intro q
    have q' : @Eq Nat (c.2.1) (a) := q
    have t : c.2.1 < n0 := this
    omega
  · intro q
    have q' : @Eq Nat (n0 + cs.length) (a) := q
    omega
  · intro q
    have q' : @Eq Nat (n0 + cs.length + 2) (a) := q
    omega
theorem ZAt.drawn {h h' : Heap} {n0 : Nat} {cs : List Col} {i d : Nat} {f0 f1 : Value} {c : Col} (z : ZAt h n0 cs (fun m => if m < d then i + 1 else i) f0 f1) (hc : cs[d]? = some c) (b : Heap.SameBut (n0 + d) h h') (j : IAt c.1 h' (n0 + d) c.2.1 (i + 1)) : ZAt h' n0 cs (fun m => if m < d + 1 then i + 1 else i) f0 f1 := by
  have k : ∀ {c : Addr} {o : Obj}, c ≠ n0 + d → h.get? c = some o → h'.get? c = some o := fun ne e => (b.2 _ ne).trans e
  have hd : d < cs.length := (List.getElem?_eq_some_iff.mp hc).1
  refine ⟨fun m c' e => ?_, fun m c' e => ⟨(z.sq m c' e).1.up fun o q => k ?_ q, (z.sq m c' e).2⟩, k ?_ z.ti, k ?_ z.ob⟩
  · by_cases q : m = d
    · subst q
      rw [hc] at e
      cases e
      rw [if_pos (Nat.lt_succ_self m)]
      exact j
    · have := z.it m c' e
      have e2 : (if m < d + 1 then i + 1 else i) = if m < d then i + 1 else i := by
        by_cases r : m < d
        · rw [if_pos r, if_pos (by omega)]
        · rw [if_neg r, if_neg (by omega)]
      rw [e2]
      refine this.up fun o q' => k ?_ q'
      intro r
      have r' : @Eq Nat (n0 + m) (n0 + d) := r
      omega
  · intro q
    have q' : @Eq Nat (c'.2.1) (n0 + d) := q
    have t : c'.2.1 < n0 := (z.sq m c' e).2
    omega
  · intro q
    have q' : @Eq Nat (n0 + cs.length) (n0 + d) := q
    omega
  · intro q
    have q' : @Eq Nat (n0 + cs.length + 2) (n0 + d) := q
    omega
theorem ZAt.field {h h' : Heap} {n0 : Nat} {cs : List Col} {i : Nat → Nat} {f0 f1 g0 g1 : Value} (z : ZAt h n0 cs i f0 f1) (b : Heap.SameBut (n0 + cs.length + 2) h h') (e : h'.get? (n0 + cs.length + 2) = some { cls := .type "zip", data := .fields #[g0, g1, .bool false, .ref (n0 + cs.length), .ref (n0 + cs.length + 1)] }) : ZAt h' n0 cs i g0 g1 := by
  have k : ∀ {c : Addr} {o : Obj}, c ≠ n0 + cs.length + 2 → h.get? c = some o → h'.get? c = some o := fun ne e => (b.2 _ ne).trans e
  refine ⟨fun m c e => (z.it m c e).up fun o q => k ?_ q, fun m c e => ⟨(z.sq m c e).1.up fun o q => k ?_ q, (z.sq m c e).2⟩, k ?_ z.ti, e⟩
  · have := (List.getElem?_eq_some_iff.mp e).1
    intro q
    have q' : @Eq Nat (n0 + m) (n0 + cs.length + 2) := q
    omega
  · have := (z.sq m c e).2
    intro q
    have q' : @Eq Nat (c.2.1) (n0 + cs.length + 2) := q
    have t : c.2.1 < n0 := this
    omega
  · intro q
    have q' : @Eq Nat (n0 + cs.length) (n0 + cs.length + 2) := q
    omega
theorem Kp.refl {n0 : Nat} {cs : List Col} {h : Heap} : Kp n0 cs h h := fun _ _ _ e => e
theorem Kp.but {n0 : Nat} {cs : List Col} {h h' h'' : Heap} {a : Nat} (k : Kp n0 cs h h') (b : Heap.SameBut a h' h'') (ha : n0 ≤ a ∧ a < n0 + cs.length + 3) : Kp n0 cs h h'' := fun c o q e => (b.2 c fun z => by
  have z' : @Eq Nat c a := z
  unfold Off at q
  omega).trans (k c o q e)
/-- the i-th items -/
def RowAt (cs : List Col) (i : Nat) (row : List Value) : Prop := row.length = cs.length ∧ ∀ (m : Nat) (c : Col), cs[m]? = some c → c.2.2[i]? = row[m]?
section
variable {prog : Program} {w : World} {A : Around} {E : Value → Shared → Prop} {s : Shared}
theorem refs_drop {n0 n d : Nat} (h : d < n) : ((refs n0 n).zipIdx).drop d = (.ref (n0 + d), d) :: ((refs n0 n).zipIdx).drop (d + 1) := by
  have hl : d < (refs n0 n).zipIdx.length := by simp [refs, h]
  rw [List.drop_eq_getElem_cons hl]
  congr 1
  simp [refs]
theorem refs_drop' {n0 n d : Nat} (h : d < n) : (refs n0 n).drop d = .ref (n0 + d) :: (refs n0 n).drop (d + 1) := by
  have hl : d < (refs n0 n).length := by simp [refs, h]
  rw [List.drop_eq_getElem_cons hl]
  congr 1
  simp [refs]
theorem zn_first {n0 i : Nat} {cs : List Col} {row : List Value} (hC : cs.length ≤ 1000) (h0 : 0 < cs.length) {Q : Value → Shared → Prop} (z : ZAt s.heap n0 cs (fun _ => i) .none (.bool false)) (to : TOAt s.heap n0 cs) (hr : RowAt cs i row) (hsz : n0 + cs.length + 3 ≤ s.heap.objs.size)
    (hQ : ∀ h', ZAt h' n0 cs (fun _ => i + 1) (rawInt s.heap.objs.size) (.bool false) → h'.get? s.heap.objs.size = some { cls := .type "tuple", data := .seq row.toArray } → h'.objs.size = s.heap.objs.size + 1 → Kp n0 cs s.heap h' → Q (.ref s.heap.objs.size) { s with heap := h' }) :
    wpAny (model prog w) A (Builtin.«zip.__next__» ⟨[.ref (n0 + cs.length + 2)], []⟩) (fun fin s' => ∃ v, fin = .done (.ret v) ∧ Q v s') E s := by
  change wpAny _ _ (field _ _ >>= _) _ _ _
  refine bfield z.ob rfl (x := .bool false) rfl ?_
  change wpAny _ _ (field _ _ >>= _) _ _ _
  refine bfield z.ob rfl (x := .ref (n0 + cs.length)) rfl (wpAny_bind (wpAny_seqItems z.ti rfl ?_))
  have hne : (refs n0 cs.length).toArray.isEmpty = false := by
    cases hcl : cs.length with
    | zero => omega
    | succ k => simp [refs, List.range_succ_eq_map]
  simp only [hne, Bool.false_eq_true, if_false]
  change wpAny _ _ (Builtin.SmallTypes.ownedTupleIsFree _ >>= _) _ _ _
  delta Builtin.SmallTypes.ownedTupleIsFree
  refine wpAny_bind (bfield z.ob rfl (x := .none) rfl (wpAny_pure ?_))
  rw [if_pos rfl]
  refine wpAny_bind (wpAny_rule (bfield z.ob rfl (x := .ref (n0 + cs.length + 1)) rfl (wpAny_bind (wpAny_setField_rec z.ob (by simp) fun u1 c1 b1 => wpAny_bind ?_))))
  replace c1 : u1.get? (n0 + cs.length + 2) = some { cls := .type "zip", data := .fields #[.ellipsis, .bool false, .bool false, .ref (n0 + cs.length), .ref (n0 + cs.length + 1)] } := c1
  have z1 : ZAt u1 n0 cs (fun _ => i) .ellipsis (.bool false) := z.field b1 c1
  obtain ⟨vs0, hv0, ht0⟩ := to
  have ht1 : u1.get? (n0 + cs.length + 1) = some { cls := .type "tuple", data := .seq vs0 } := (b1.2 _ (by intro q; have q' : @Eq Nat (n0 + cs.length + 1) (n0 + cs.length + 2) := q; omega)).trans ht0
  have k1 : Kp n0 cs s.heap u1 := Kp.refl.but b1 (by omega)
  refine wpAny_forIn_list _ (fun rest b s' => b.1 = none ∧ ∃ (d : Nat) (u : Heap) (vs : Array Value), d ≤ cs.length ∧ rest = ((refs n0 cs.length).zipIdx).drop d ∧ s' = { s with heap := u } ∧ ZAt u n0 cs (fun m => if m < d then i + 1 else i) .ellipsis (.bool false) ∧ vs.size = cs.length ∧ u.get? (n0 + cs.length + 1) = some { cls := .type "tuple", data := .seq vs } ∧ (∀ m, m < d → vs[m]? = row[m]?) ∧ u.objs.size = s.heap.objs.size ∧ Kp n0 cs s.heap u) _ ?_ ?_ _ _ ?_
  · rintro ⟨y, dd⟩ rest b s' ⟨hb, d, u, vs, hd, hrest, rfl, zu, hvs, htu, hpre, hus, ku⟩
    have hlt : d < cs.length := by
      rcases Nat.lt_or_ge d cs.length with h | h
      · exact h
      · rw [List.drop_of_length_le (by simp [refs]; exact h)] at hrest
        cases hrest
    rw [refs_drop hlt] at hrest
    injection hrest with h1 h2
    have e1 : y = .ref (n0 + d) := congrArg Prod.fst h1
    have e2 : d = dd := (congrArg Prod.snd h1).symm
    subst e2 e1
    have hc : cs[d]? = some cs[d] := List.getElem?_eq_getElem hlt
    generalize cs[d] = c at hc
    have hx : ∃ x, c.2.2[i]? = some x ∧ row[d]? = some x := by
      have hd2 : d < row.length := by rw [hr.1]; exact hlt
      have e := hr.2 d c hc
      exact ⟨row[d], by rw [e]; exact List.getElem?_eq_getElem hd2, List.getElem?_eq_getElem hd2⟩
    obtain ⟨x, hx, hx2⟩ := hx
    have ji := zu.it d c hc
    rw [if_neg (Nat.lt_irrefl d)] at ji
    refine wpAny_bind (wpAny_onRaise ?_)
    change wpAny _ _ (Builtin.SmallTypes.nextOf _ >>= _) _ _ _
    refine wpAny_bind (draw1 (s := { s with heap := u }) ji (zu.sq d c hc).1 hx fun u2 j2 b2 => wpAny_pure ?_)
    have zu2 := zu.drawn hc b2 j2
    have ht2 : u2.get? (n0 + cs.length + 1) = some { cls := .type "tuple", data := .seq vs } := (b2.2 _ (by intro q; have q' : @Eq Nat (n0 + cs.length + 1) (n0 + d) := q; omega)).trans htu
    have hset : (vs.setIfInBounds d x).size = vs.size := by simp
    refine wpAny_bind (wpAny_seqItems ht2 rfl (wpAny_bind (upd_tup (s := { s with heap := u2 }) ht2 (by omega) hset fun u3 t3 b3 => wpAny_bind (wpAny_letGo (wpAny_pure ⟨rfl, d + 1, u3, vs.setIfInBounds d x, hlt, h2, rfl, zu2.but b3 (.inl rfl), by rw [hset, hvs], t3, fun m hm => ?_, ?_, (ku.but b2 (by omega)).but b3 (by omega)⟩)))))
    · by_cases q : m = d
      · subst q
        rw [Array.getElem?_setIfInBounds_self_of_lt (by omega), hx2]
      · rw [Array.getElem?_setIfInBounds_ne (fun z => q z.symm), hpre m (by omega)]
    · rw [b3.1, b2.1]
      exact hus
  · rintro ⟨b1, b2⟩ s' ⟨hb, d, u, vs, hd, hrest, rfl, zu, hvs, htu, hpre, hus, ku⟩
    dsimp only at hb
    subst hb
    have hdC : d = cs.length := by
      rcases Nat.lt_or_ge d cs.length with h | h
      · rw [refs_drop h] at hrest
        cases hrest
      · omega
    subst hdC
    have evs : vs.toList = row := by
      apply List.ext_getElem?
      intro m
      by_cases hm : m < cs.length
      · rw [← hpre m hm, Array.getElem?_toList]
      · rw [List.getElem?_eq_none (by rw [Array.length_toList]; omega), List.getElem?_eq_none (by rw [hr.1]; omega)]
    refine wpAny_bind (wpAny_seqItems htu rfl (wpAny_bind (wpAny_newTuple ?_ (by rw [evs, hr.1]; exact Nat.le_trans hC (by decide)))))
    change wpAny _ _ (Builtin.SmallTypes.ownedTupleHandOut _ (.ref u.objs.size) >>= _) _ _ _
    delta Builtin.SmallTypes.ownedTupleHandOut
    have c6 : (u.push { cls := .type "tuple", data := .seq vs.toList.toArray }).get? (n0 + cs.length + 2) = some { cls := .type "zip", data := .fields #[.ellipsis, .bool false, .bool false, .ref (n0 + cs.length), .ref (n0 + cs.length + 1)] } := Heap.get?_push_of_some _ zu.ob
    have z6 : ZAt (u.push { cls := .type "tuple", data := .seq vs.toList.toArray }) n0 cs (fun m => if m < cs.length then i + 1 else i) .ellipsis (.bool false) := zu.up fun _ _ e => Heap.get?_push_of_some _ e
    have t6 : (u.push { cls := .type "tuple", data := .seq vs.toList.toArray }).get? u.objs.size = some { cls := .type "tuple", data := .seq vs.toList.toArray } := Heap.get?_push_size _ rfl
    have s6 : (u.push { cls := .type "tuple", data := .seq vs.toList.toArray }).objs.size = u.objs.size + 1 := Heap.size_push ..
    have k6 : Kp n0 cs s.heap (u.push { cls := .type "tuple", data := .seq vs.toList.toArray }) := fun a o q e => Heap.get?_push_of_some _ (ku a o q e)
    generalize u.push { cls := .type "tuple", data := .seq vs.toList.toArray } = u6 at *
    refine wpAny_bind (wpAny_bind (wpAny_setField_rec c6 (by simp) fun u7 c7 b7 => ?_))
    replace c7 : u7.get? (n0 + cs.length + 2) = some { cls := .type "zip", data := .fields #[rawInt u.objs.size, .bool false, .bool false, .ref (n0 + cs.length), .ref (n0 + cs.length + 1)] } := c7
    refine wpAny_setField_rec c7 (by simp) fun u8 c8 b8 => wpAny_pure ⟨_, rfl, ?_⟩
    replace c8 : u8.get? (n0 + cs.length + 2) = some { cls := .type "zip", data := .fields #[rawInt u.objs.size, .bool false, .bool false, .ref (n0 + cs.length), .ref (n0 + cs.length + 1)] } := c8
    have z8 := (z6.field b7 c7).field b8 c8
    have ne : ∀ {x : Addr}, x = u.objs.size → x ≠ n0 + cs.length + 2 := fun {x} e q => by
      have q' : @Eq Nat u.objs.size (n0 + cs.length + 2) := e.symm.trans q
      omega
    have t8 : u8.get? u.objs.size = some { cls := .type "tuple", data := .seq vs.toList.toArray } := (b8.2 _ (ne rfl)).trans ((b7.2 _ (ne rfl)).trans t6)
    have z9 : ZAt u8 n0 cs (fun _ => i + 1) (rawInt u.objs.size) (.bool false) := ⟨fun m c e => by
      have := z8.it m c e
      rw [if_pos (List.getElem?_eq_some_iff.mp e).1] at this
      exact this, z8.sq, z8.ti, z8.ob⟩
    have s8 : u8.objs.size = u.objs.size + 1 := by rw [b8.1, b7.1, s6]
    have k8 : Kp n0 cs s.heap u8 := (k6.but b7 (by omega)).but b8 (by omega)
    rw [evs] at t8
    rw [hus] at z9 t8 s8 ⊢
    exact hQ u8 z9 t8 s8 k8
  · exact ⟨rfl, 0, u1, vs0, Nat.zero_le _, rfl, rfl, z1, hv0, ht1, fun m hm => absurd hm (Nat.not_lt_zero _), b1.1, k1⟩
end
end Py
/-! A zip over any number of columns: further turns, its end, next. -/
namespace Py
open PySem PySem.Spec PyProof.Rows L2
/-- a zip behind i turns; T: the tuple given out last -/
inductive ZSt (h : Heap) (n0 : Nat) (cs : List Col) (i : Nat) : Prop
  | fresh (z : ZAt h n0 cs (fun _ => i) .none (.bool false)) (to : TOAt h n0 cs)
  | held (T : Nat) (f : Bool) (z : ZAt h n0 cs (fun _ => i) (rawInt T) (.bool f)) (hT : ∃ o, h.get? T = some o) (off : Off n0 cs T)
section
variable {prog : Program} {w : World} {A : Around} {E : Value → Shared → Prop} {s : Shared}
theorem refs_ne {n0 n : Nat} (h : 0 < n) : (refs n0 n).toArray.isEmpty = false := by
  cases n with
  | zero => omega
  | succ k => simp [refs, List.range_succ_eq_map]
theorem zn_held {n0 i T : Nat} {f : Bool} {oT : Obj} {cs : List Col} {row : List Value} (hC : cs.length ≤ 1000) (h0 : 0 < cs.length) {Q : Value → Shared → Prop} (z : ZAt s.heap n0 cs (fun _ => i) (rawInt T) (.bool f)) (hT : s.heap.get? T = some oT) (hr : RowAt cs i row) (hsz : n0 + cs.length + 3 ≤ s.heap.objs.size)
    (hQ : ∀ h', ZAt h' n0 cs (fun _ => i + 1) (rawInt T) (.bool true) → h'.get? s.heap.objs.size = some { cls := .type "tuple", data := .seq row.toArray } → h'.objs.size = s.heap.objs.size + 1 → Kp n0 cs s.heap h' → Q (.ref s.heap.objs.size) { s with heap := h' }) :
    wpAny (model prog w) A (Builtin.«zip.__next__» ⟨[.ref (n0 + cs.length + 2)], []⟩) (fun fin s' => ∃ v, fin = .done (.ret v) ∧ Q v s') E s := by
  change wpAny _ _ (field _ _ >>= _) _ _ _
  refine bfield z.ob rfl (x := .bool false) rfl ?_
  change wpAny _ _ (field _ _ >>= _) _ _ _
  refine bfield z.ob rfl (x := .ref (n0 + cs.length)) rfl (wpAny_bind (wpAny_seqItems z.ti rfl ?_))
  simp only [refs_ne h0, Bool.false_eq_true, if_false]
  change wpAny _ _ (Builtin.SmallTypes.ownedTupleIsFree _ >>= _) _ _ _
  refine wpAny_bind (wpAny_tupleHeld_zip (TI := n0 + cs.length) (TO := n0 + cs.length + 1) (T := T) (f := f) z.ob hT fun u1 c1 b1 => ?_)
  have z1 : ZAt u1 n0 cs (fun _ => i) (rawInt T) (.bool true) := z.field b1 c1
  simp only [Bool.false_eq_true, if_false]
  refine wpAny_bind ?_
  rw [← Array.forIn_toList]
  have k1 : Kp n0 cs s.heap u1 := Kp.refl.but b1 (by omega)
  refine wpAny_forIn_list _ (fun rest b s' => b.1 = none ∧ ∃ (d : Nat) (u : Heap), d ≤ cs.length ∧ rest = (refs n0 cs.length).drop d ∧ s' = { s with heap := u } ∧ ZAt u n0 cs (fun m => if m < d then i + 1 else i) (rawInt T) (.bool true) ∧ b.2.toList = row.take d ∧ u.objs.size = s.heap.objs.size ∧ Kp n0 cs s.heap u) _ ?_ ?_ _ _ ?_
  · rintro y rest b s' ⟨hb, d, u, hd, hrest, rfl, zu, hpre, hus, ku⟩
    obtain ⟨b1', acc⟩ := b
    dsimp only at hb hpre
    subst hb
    have hlt : d < cs.length := by
      rcases Nat.lt_or_ge d cs.length with h | h
      · exact h
      · rw [List.drop_of_length_le (by simp [refs]; exact h)] at hrest
        cases hrest
    rw [refs_drop' hlt] at hrest
    injection hrest with h1 h2
    subst h1
    have hc : cs[d]? = some cs[d] := List.getElem?_eq_getElem hlt
    generalize cs[d] = c at hc
    have hd2 : d < row.length := by rw [hr.1]; exact hlt
    have hx : c.2.2[i]? = some row[d] := by
      rw [hr.2 d c hc]
      exact List.getElem?_eq_getElem hd2
    have ji := zu.it d c hc
    rw [if_neg (Nat.lt_irrefl d)] at ji
    refine wpAny_bind (wpAny_holding ?_)
    change wpAny _ _ (Builtin.SmallTypes.nextOf _ >>= _) _ _ _
    refine wpAny_bind (draw1 (s := { s with heap := u }) ji (zu.sq d c hc).1 hx fun u2 j2 b2 => wpAny_pure (wpAny_pure ⟨rfl, d + 1, u2, hlt, h2, rfl, zu.drawn hc b2 j2, ?_, ?_, ku.but b2 (by omega)⟩))
    · rw [Array.toList_push, hpre, List.take_add_one, List.getElem?_eq_getElem hd2]
      rfl
    · rw [b2.1]
      exact hus
  · rintro ⟨b1', acc⟩ s' ⟨hb, d, u, hd, hrest, rfl, zu, hpre, hus, ku⟩
    dsimp only at hb hpre
    subst hb
    have hdC : d = cs.length := by
      rcases Nat.lt_or_ge d cs.length with h | h
      · rw [refs_drop' h] at hrest
        cases hrest
      · omega
    subst hdC
    rw [← hr.1, List.take_length] at hpre
    dsimp only
    refine wpAny_bind (wpAny_newTuple ?_ (by rw [hpre, hr.1]; exact Nat.le_trans hC (by decide)))
    rw [hpre]
    refine wpAny_pure ⟨_, rfl, ?_⟩
    have z6 : ZAt (u.push { cls := .type "tuple", data := .seq row.toArray }) n0 cs (fun _ => i + 1) (rawInt T) (.bool true) := by
      have := zu.up (h' := u.push { cls := .type "tuple", data := .seq row.toArray }) fun _ _ e => Heap.get?_push_of_some _ e
      exact ⟨fun m c e => by
        have q := this.it m c e
        rw [if_pos (List.getElem?_eq_some_iff.mp e).1] at q
        exact q, this.sq, this.ti, this.ob⟩
    have t6 : (u.push { cls := .type "tuple", data := .seq row.toArray }).get? u.objs.size = some { cls := .type "tuple", data := .seq row.toArray } := Heap.get?_push_size _ rfl
    have s6 : (u.push { cls := .type "tuple", data := .seq row.toArray }).objs.size = u.objs.size + 1 := Heap.size_push ..
    have k6 : Kp n0 cs s.heap (u.push { cls := .type "tuple", data := .seq row.toArray }) := fun a o q e => Heap.get?_push_of_some _ (ku a o q e)
    change Q (.ref u.objs.size) { s with heap := u.push { cls := .type "tuple", data := .seq row.toArray } }
    rw [hus] at t6 s6 ⊢
    exact hQ _ z6 t6 s6 k6
  · exact ⟨rfl, 0, u1, Nat.zero_le _, rfl, rfl, z1, by simp, b1.1, k1⟩
theorem refs_cons {n0 n : Nat} (h : 0 < n) : refs n0 n = .ref n0 :: (refs n0 n).drop 1 := by
  have := refs_drop' (n0 := n0) h
  rw [List.drop_zero] at this
  exact this
theorem zn_end {n0 i : Nat} {cs : List Col} {c0 : Col} (hc : cs[0]? = some c0) (hx : c0.2.2[i]? = none) (hh : A.handled = none) {Q : Fin → Shared → Prop} (z : ZSt s.heap n0 cs i)
    (hE : ∀ h' e, Kp n0 cs s.heap h' → (∃ o, h'.get? e = some o ∧ o.cls = .type "StopIteration") → E (.ref e) { s with heap := h' }) :
    wpAny (model prog w) A (Builtin.«zip.__next__» ⟨[.ref (n0 + cs.length + 2)], []⟩) Q E s := by
  have h0 : 0 < cs.length := (List.getElem?_eq_some_iff.mp hc).1
  have kx : ∀ {u u' : Heap}, Kp n0 cs s.heap u → Heap.ExtBut n0 u u' → Kp n0 cs s.heap u' := fun k b a o q e => b _ _ (fun z => by
    have z' : @Eq Nat a n0 := z
    unfold Off at q
    omega) (k a o q e)
  cases z with
  | fresh z to =>
    change wpAny _ _ (field _ _ >>= _) _ _ _
    refine bfield z.ob rfl (x := .bool false) rfl ?_
    change wpAny _ _ (field _ _ >>= _) _ _ _
    refine bfield z.ob rfl (x := .ref (n0 + cs.length)) rfl (wpAny_bind (wpAny_seqItems z.ti rfl ?_))
    simp only [refs_ne h0, Bool.false_eq_true, if_false]
    change wpAny _ _ (Builtin.SmallTypes.ownedTupleIsFree _ >>= _) _ _ _
    delta Builtin.SmallTypes.ownedTupleIsFree
    refine wpAny_bind (bfield z.ob rfl (x := .none) rfl (wpAny_pure ?_))
    rw [if_pos rfl]
    refine wpAny_bind (wpAny_rule (bfield z.ob rfl (x := .ref (n0 + cs.length + 1)) rfl (wpAny_bind (wpAny_setField_rec z.ob (by simp) fun u1 c1 b1 => wpAny_bind ?_))))
    have z1 : ZAt u1 n0 cs (fun _ => i) .ellipsis (.bool false) := z.field b1 c1
    have k1 : Kp n0 cs s.heap u1 := Kp.refl.but b1 (by omega)
    show wpAny _ _ (forIn (refs n0 cs.length).zipIdx _ _) _ _ _
    rw [refs_cons h0, List.zipIdx_cons, List.forIn_cons]
    refine wpAny_bind (wpAny_bind (wpAny_onRaise ?_))
    change wpAny _ _ (Builtin.SmallTypes.nextOf _ >>= _) _ _ _
    refine wpAny_bind (draw0 (s := { s with heap := u1 }) hh (z1.it 0 c0 hc) (z1.sq 0 c0 hc).1 hx fun u2 e b2 ⟨oe, he, ce⟩ => ?_)
    have c2 : u2.get? (n0 + cs.length + 2) = _ := b2 _ _ (fun q => by
      have q' : @Eq Nat (n0 + cs.length + 2) (n0 + 0) := q
      omega) z1.ob
    have k2 := kx k1 b2
    have ne : e ≠ n0 + cs.length + 2 := fun q => by
      rw [q, c2] at he
      cases he
      simp at ce
    exact wpAny_setField_rec c2 (by simp) fun u3 _ b3 => hE u3 e (k2.but b3 (by omega)) ⟨oe, b3.extBut _ _ ne he, ce⟩
  | held T f z hT off =>
    obtain ⟨oT, hT⟩ := hT
    change wpAny _ _ (field _ _ >>= _) _ _ _
    refine bfield z.ob rfl (x := .bool false) rfl ?_
    change wpAny _ _ (field _ _ >>= _) _ _ _
    refine bfield z.ob rfl (x := .ref (n0 + cs.length)) rfl (wpAny_bind (wpAny_seqItems z.ti rfl ?_))
    simp only [refs_ne h0, Bool.false_eq_true, if_false]
    change wpAny _ _ (Builtin.SmallTypes.ownedTupleIsFree _ >>= _) _ _ _
    refine wpAny_bind (wpAny_tupleHeld_zip (TI := n0 + cs.length) (TO := n0 + cs.length + 1) (T := T) (f := f) z.ob hT fun u1 c1 b1 => ?_)
    have z1 : ZAt u1 n0 cs (fun _ => i) (rawInt T) (.bool true) := z.field b1 c1
    have k1 : Kp n0 cs s.heap u1 := Kp.refl.but b1 (by omega)
    simp only [Bool.false_eq_true, if_false]
    refine wpAny_bind ?_
    rw [← Array.forIn_toList]
    show wpAny _ _ (forIn (refs n0 cs.length) _ _) _ _ _
    rw [refs_cons h0, List.forIn_cons]
    refine wpAny_bind (wpAny_bind (wpAny_holding ?_))
    change wpAny _ _ (Builtin.SmallTypes.nextOf _ >>= _) _ _ _
    exact wpAny_bind (draw0 (s := { s with heap := u1 }) hh (z1.it 0 c0 hc) (z1.sq 0 c0 hc).1 hx fun u2 e b2 he => hE u2 e (kx k1 b2) he)
theorem ZSt.ty {n0 i : Nat} {cs : List Col} (z : ZSt s.heap n0 cs i) : s.TypeIs (.ref (n0 + cs.length + 2)) "zip" := by
  cases z with
  | fresh z _ => exact ⟨_, z.ob, rfl⟩
  | held T f z _ _ => exact ⟨_, z.ob, rfl⟩
/-- next of a zip -/
theorem zn_next {n0 i : Nat} {cs : List Col} {row : List Value} (hC : cs.length ≤ 1000) (h0 : 0 < cs.length) {Q : Option Value → Shared → Prop} (z : ZSt s.heap n0 cs i) (hr : RowAt cs i row) (hsz : n0 + cs.length + 3 ≤ s.heap.objs.size)
    (hQ : ∀ h', ZSt h' n0 cs (i + 1) → h'.get? s.heap.objs.size = some { cls := .type "tuple", data := .seq row.toArray } → h'.objs.size = s.heap.objs.size + 1 → Kp n0 cs s.heap h' → Q (some (.ref s.heap.objs.size)) { s with heap := h' }) :
    wpAny (model prog w) A (pyNext (.ref (n0 + cs.length + 2))) Q E s := by
  have ty := z.ty
  delta pyNext
  refine wpAny_bind (wpAny_attempt (wpAny_callSpecial?_slot (name := Str.ofString "__next__") ty F.slot_zip_next (wpAny_call_entry F.slot_zip_next ty F.entry_zip_next ?_ (F.args_zip_next_1 _))))
  cases z with
  | fresh z to => exact zn_first hC h0 z to hr hsz fun h' a1 a2 a3 a4 => wpAny_pure (hQ h' (.held _ _ a1 ⟨_, a2⟩ (.inr hsz)) a2 a3 a4)
  | held T f z hT off =>
    obtain ⟨oT, hT⟩ := hT
    exact zn_held hC h0 z hT hr hsz fun h' a1 a2 a3 a4 => wpAny_pure (hQ h' (.held _ _ a1 ⟨_, a4 _ _ off hT⟩ off) a2 a3 a4)
theorem zn_none {n0 i : Nat} {cs : List Col} {c0 : Col} (hc : cs[0]? = some c0) (hx : c0.2.2[i]? = none) (hh : A.handled = none) {Q : Option Value → Shared → Prop} (z : ZSt s.heap n0 cs i)
    (hQ : ∀ h', Kp n0 cs s.heap h' → Q none { s with heap := h' }) : wpAny (model prog w) A (pyNext (.ref (n0 + cs.length + 2))) Q E s := by
  have ty := z.ty
  delta pyNext
  refine wpAny_bind (wpAny_attempt (wpAny_callSpecial?_slot (name := Str.ofString "__next__") ty F.slot_zip_next (wpAny_call_entry F.slot_zip_next ty F.entry_zip_next ?_ (F.args_zip_next_1 _))))
  refine zn_end (A := A.in1) hc hx hh z fun h' e k ⟨o, ho, hc⟩ => ?_
  exact wpAny_bind (wpAny_isInstance (T := "StopIteration") (b := true) ⟨o, ho, hc⟩ isSubtype_stop (wpAny_pure (hQ h' k)))
end
end Py
/-! list(z), z a zip just made. -/
namespace Py
open PySem PySem.Spec PyProof.Rows L2
abbrev LstO (acc : Array Value) (c : Nat) : Obj := { cls := .type "list", dict := none, data := .seq acc c, slots := #[] }
abbrev TupO (row : List Value) : Obj := { cls := .type "tuple", data := .seq row.toArray }
theorem ZSt.but {h h' : Heap} {n0 : Nat} {cs : List Col} {i : Nat} {a : Nat} (z : ZSt h n0 cs i) (b : Heap.SameBut a h h') (ha : n0 + cs.length + 3 ≤ a) (ho : ∃ o, h'.get? a = some o) : ZSt h' n0 cs i := by
  cases z with
  | fresh z to =>
    obtain ⟨vs, h1, h2⟩ := to
    exact .fresh (z.but b (.inr ha)) ⟨vs, h1, (b.2 _ (fun q => by
      have q' : @Eq Nat (n0 + cs.length + 1) a := q
      omega)).trans h2⟩
  | held T f z hT off =>
    refine .held T f (z.but b (.inr ha)) ?_ off
    obtain ⟨o, hT⟩ := hT
    by_cases q : T = a
    · rw [q]
      exact ho
    · exact ⟨o, (b.2 _ q).trans hT⟩
theorem ZSt.up {h h' : Heap} {n0 : Nat} {cs : List Col} {i : Nat} (z : ZSt h n0 cs i) (k : ∀ a o, h.get? a = some o → h'.get? a = some o) : ZSt h' n0 cs i := by
  cases z with
  | fresh z to =>
    obtain ⟨vs, h1, h2⟩ := to
    exact .fresh (z.up k) ⟨vs, h1, k _ _ h2⟩
  | held T f z hT off =>
    obtain ⟨o, hT⟩ := hT
    exact .held T f (z.up k) ⟨o, k _ _ hT⟩ off
/-- what stands behind the loop -/
structure LzDone (h h' : Heap) (n0 S N : Nat) (rows : Nat → List Value) : Prop where
  lst : ∃ c, h'.get? S = some (LstO (refs (S + 1) N).toArray c)
  tup : ∀ j, j < N → h'.get? (S + 1 + j) = some (TupO (rows j))
  old : ∀ (a : Nat) o, a < n0 → h.get? a = some o → h'.get? a = some o
section
variable {prog : Program} {w : World} {A : Around} {R : Result → Shared → Prop} {E : Value → Shared → Prop}
variable {n0 S N : Nat} {cs : List Col} {rows : Nat → List Value} {c0 : Col}
theorem lz_loop (hh : A.handled = none) (hC : cs.length ≤ 1000) (hc : cs[0]? = some c0) (hx : c0.2.2.size = N) (hN : N ≤ 1000000) (hr : ∀ i, i < N → RowAt cs i (rows i)) (hS : S = n0 + cs.length + 3) (res : Value) :
    ∀ (k i : Nat) (s : Shared) (c : Nat), N - i = k → i ≤ N → ZSt s.heap n0 cs i → s.heap.objs.size = S + 1 + i → s.heap.get? S = some (LstO (refs (S + 1) i).toArray c) → (∀ j, j < i → s.heap.get? (S + 1 + j) = some (TupO (rows j))) →
    (∀ h', LzDone s.heap h' n0 S N rows → R (.ok (.ret res)) { s with heap := h' }) →
    codeAny (model prog w) A (.builtin "list.extend.loop" ⟨[.ref S, .ref (n0 + cs.length + 2), res], []⟩) R s := by
  have h0 : 0 < cs.length := (List.getElem?_eq_some_iff.mp hc).1
  intro k
  induction k with
  | zero =>
    intro i s c hk hi z hsz hl ht hR
    have e : i = N := by omega
    subst e
    refine codeAny_builtin PySem.F.entry_extend_loop ?_
    rw [Around.under_plainId PySem.F.plain_extend_loop _]
    show wpAny _ A.in1 (pyNext (.ref (n0 + cs.length + 2)) >>= _) _ _ s
    refine wpAny_bind (zn_none (A := A.in1) hc (by rw [← hx]; exact Array.getElem?_size) hh z fun h' kp => ?_)
    refine wpAny_pure (hR h' ⟨⟨c, kp _ _ (.inr (by omega)) hl⟩, fun j hj => kp _ _ (.inr (by omega)) (ht j hj), fun a o ha e => kp a o (.inl ha) e⟩)
  | succ k ih =>
    intro i s c hk hi z hsz hl ht hR
    have hlt : i < N := by omega
    refine codeAny_builtin PySem.F.entry_extend_loop ?_
    rw [Around.under_plainId PySem.F.plain_extend_loop _]
    show wpAny _ A.in1 (pyNext (.ref (n0 + cs.length + 2)) >>= _) _ _ s
    refine wpAny_bind (zn_next (A := A.in1) hC h0 z (hr i hlt) (by omega) fun h1 z1 t1 s1 k1 => ?_)
    have hl1 : h1.get? S = some (LstO (refs (S + 1) i).toArray c) := k1 _ _ (.inr (by omega)) hl
    show wpAny _ A.in1 (updateSeq S (·.push (.ref s.heap.objs.size)) >>= _) _ _ _
    have hz1 : (refs (S + 1) i).toArray.size = i := by simp [refs]
    have hacc : (refs (S + 1) i).toArray.push (.ref s.heap.objs.size) = (refs (S + 1) (i + 1)).toArray := by
      unfold refs
      rw [List.range_succ, List.map_append, hsz]
      simp
    refine wpAny_bind ?_
    refine wpAny_updateSeq hl1 rfl (wpAny_pure ⟨plainId_quiet PySem.F.plain_extend_loop _, ?_⟩) (by rw [hz1]; exact Nat.le_trans (Nat.le_trans hi hN) (by decide)) (by show ((refs (S + 1) i).toArray.push _).size ≤ _; rw [Array.size_push, hz1]; exact Nat.le_trans (show _ ≤ 1000001 by omega) (by decide))
    have b2 : Heap.SameBut S h1 (h1.update S (Obj.mapSeq (·.push (.ref s.heap.objs.size)))) := Heap.SameBut.update ..
    have l2 := Heap.get?_update_self (Obj.mapSeq (·.push (.ref s.heap.objs.size))) hl1 rfl
    generalize h1.update S (Obj.mapSeq (·.push (.ref s.heap.objs.size))) = h2 at *
    have off : ∀ {a : Nat}, a ≠ S → ∀ {o : Obj}, h1.get? a = some o → h2.get? a = some o := fun {a} ne {o} e => (b2.2 _ ne).trans e
    refine ih (i + 1) { s with heap := h2 } _ (by omega) hlt (z1.but b2 (by omega) ⟨_, l2⟩) (by show h2.objs.size = _; rw [b2.1, s1, hsz]; omega) (by rw [← hacc]; exact l2) (fun j hj => ?_) fun h' d => hR h' ⟨d.lst, d.tup, fun a o ha e => d.old a o ha (off (by omega) (k1 a o (.inl ha) e))⟩
    by_cases q : j = i
    · subst q
      rw [hsz] at t1
      exact off (by omega) t1
    · exact off (by omega) (k1 _ _ (.inr (by omega)) (ht j (by omega)))
theorem lz_extend (hh : A.handled = none) (hC : cs.length ≤ 1000) (hc : cs[0]? = some c0) (hx : c0.2.2.size = N) (hN : N ≤ 1000000) (hr : ∀ i, i < N → RowAt cs i (rows i)) (hS : S = n0 + cs.length + 3) (res : Value) {s : Shared} {c : Nat} (z : ZAt s.heap n0 cs (fun _ => 0) .none (.bool false)) (to : TOAt s.heap n0 cs) (hsz : s.heap.objs.size = S + 1) (hl : s.heap.get? S = some (LstO #[] c))
    (hR : ∀ h', LzDone s.heap h' n0 S N rows → R (.ok (.ret res)) { s with heap := h' }) :
    wpAny (model prog w) A.in1 (Builtin.List.listExtendWith (.ref S) (.ref (n0 + cs.length + 2)) res)
      (fun fin s' => match fin with | .done f => R (.ok f) s' | .again c' => c'.quiet = true ∧ codeAny (model prog w) A c' R s') (fun e s' => R (.error e) s') s := by
  have ty : s.TypeIs (.ref (n0 + cs.length + 2)) "zip" := ⟨_, z.ob, rfl⟩
  have hSI : (S : Nat) ≠ n0 + cs.length + 2 := by omega
  unfold Builtin.List.listExtendWith
  refine wpAny_bind (wpAny_typeOf ty ?_)
  have h1 : Builtin.List.listSameRef (.ref S) (.ref (n0 + cs.length + 2)) = false := by
    show ((S : Nat) == n0 + cs.length + 2) = false
    simp [hSI]
  have h2 : (Value.type "zip" == Value.type "list") = false := by decide
  have h3 : (Value.type "zip" == Value.type "tuple") = false := by decide
  simp only [h1, h2, h3, Bool.or_false, Bool.false_eq_true, if_false]
  refine wpAny_bind (wpAny_pyIter_zip (TI := n0 + cs.length) (TO := n0 + cs.length + 1) z.ob ?_)
  refine wpAny_bind (wpAny_holding ?_)
  unfold Builtin.List.listLengthHint
  refine wpAny_bind (wpAny_specialOf ty zn_no_len ?_)
  show wpAny _ A.in1 (specialOf (Value.ref (n0 + cs.length + 2)) (Str.ofString "__length_hint__") >>= _) _ _ _
  refine wpAny_bind (wpAny_specialOf ty zn_no_hint ?_)
  refine wpAny_pure ?_
  show wpAny _ A.in1 (rule "list.extend.makes-room" >>= fun _ => Builtin.List.listTouch (.ref S) >>= fun _ =>
    again (.builtin "list.extend.loop" ⟨[.ref S, .ref (n0 + cs.length + 2), res], []⟩)) _ _ _
  refine wpAny_bind (wpAny_rule ?_)
  refine wpAny_bind ?_
  show wpAny _ A.in1 (updateSeq S (·.push .none) >>= fun _ => updateSeq S (·.pop)) _ _ _
  refine wpAny_bind (wpAny_updateSeq hl rfl ?_)
  have b2 : Heap.SameBut S s.heap (s.heap.update S (Obj.mapSeq (·.push Value.none))) := Heap.SameBut.update ..
  have hS₂ := Heap.get?_update_self (Obj.mapSeq (·.push Value.none)) hl rfl
  refine wpAny_updateSeq (hz := by seq_fits) hS₂ rfl ?_
  have b3 : Heap.SameBut S (s.heap.update S (Obj.mapSeq (·.push Value.none))) ((s.heap.update S (Obj.mapSeq (·.push Value.none))).update S (Obj.mapSeq (·.pop))) := Heap.SameBut.update ..
  have hS₃ := Heap.get?_update_self (Obj.mapSeq (·.pop)) hS₂ rfl
  generalize s.heap.update S (Obj.mapSeq (·.push Value.none)) = u2 at *
  generalize u2.update S (Obj.mapSeq (·.pop)) = u3 at *
  have off : ∀ {a : Nat}, a ≠ S → ∀ {o : Obj}, s.heap.get? a = some o → u3.get? a = some o := fun {a} ne {o} e => (b3.2 _ ne).trans ((b2.2 _ ne).trans e)
  refine wpAny_pure ⟨plainId_quiet PySem.F.plain_extend_loop _, lz_loop (s := { s with heap := u3 }) hh hC hc hx hN hr hS res N 0 _ (Nat.sub_zero N) (Nat.zero_le _) (((ZSt.fresh z to).but b2 (by omega) ⟨_, hS₂⟩).but b3 (by omega) ⟨_, hS₃⟩) (by show u3.objs.size = _; rw [b3.1, b2.1]; exact hsz) hS₃ (fun j hj => absurd hj (Nat.not_lt_zero _)) fun h' d => hR h' ⟨d.lst, d.tup, fun a o ha e => d.old a o ha (off (by omega) e)⟩⟩
theorem lz_init (hh : A.handled = none) (hC : cs.length ≤ 1000) (hc : cs[0]? = some c0) (hx : c0.2.2.size = N) (hN : N ≤ 1000000) (hr : ∀ i, i < N → RowAt cs i (rows i)) (hS : S = n0 + cs.length + 3) {s : Shared} (z : ZAt s.heap n0 cs (fun _ => 0) .none (.bool false)) (to : TOAt s.heap n0 cs) (hsz : s.heap.objs.size = S + 1) (hl : s.heap.get? S = some { cls := .type "list", data := .seq #[] })
    (hR : ∀ h', LzDone s.heap h' n0 S N rows → R (.ok (.ret .none)) { s with heap := h' }) :
    wpAny (model prog w) A.in1 (Builtin.«list.__init__» ⟨[.ref S, .ref (n0 + cs.length + 2)], []⟩)
      (fun fin s' => match fin with | .done f => R (.ok f) s' | .again c' => c'.quiet = true ∧ codeAny (model prog w) A c' R s') (fun e s' => R (.error e) s') s := by
  show wpAny _ A.in1 (do let old ← Builtin.List.listItems (.ref S); Builtin.List.listUpdate (.ref S) (fun _ => #[]); letGo old.toList.reverse; Builtin.List.listExtendWith (.ref S) (.ref (n0 + cs.length + 2)) .none) _ _ s
  refine wpAny_bind ?_
  unfold Builtin.List.listItems
  refine wpAny_bind (wpAny_seqItems hl rfl (wpAny_pure ?_))
  show wpAny _ A.in1 (updateSeq S (fun _ => #[]) >>= fun _ => letGo (#[] : Array Value).toList.reverse >>= fun _ => Builtin.List.listExtendWith (.ref S) (.ref (n0 + cs.length + 2)) .none) _ _ s
  refine wpAny_bind (wpAny_updateSeq hl rfl ?_)
  have b2 : Heap.SameBut S s.heap (s.heap.update S (Obj.mapSeq (fun _ => (#[] : Array Value)))) := Heap.SameBut.update ..
  have hS₂ := Heap.get?_update_self (Obj.mapSeq (fun _ => (#[] : Array Value))) hl rfl
  generalize s.heap.update S (Obj.mapSeq (fun _ => (#[] : Array Value))) = u2 at *
  refine wpAny_bind (wpAny_letGo ?_)
  have z2 := z.but b2 (.inr (show n0 + cs.length + 3 ≤ S by omega))
  obtain ⟨vs, v1, v2⟩ := to
  refine lz_extend (s := { s with heap := u2 }) hh hC hc hx hN hr hS .none z2 ⟨vs, v1, (b2.2 _ (fun q => by
    have q' : @Eq Nat (n0 + cs.length + 1) S := q
    omega)).trans v2⟩ (by show u2.objs.size = _; rw [b2.1]; exact hsz) hS₂ fun h' d => hR h' ⟨d.lst, d.tup, fun a o ha e => d.old a o ha ((b2.2 _ (fun q => by
    have q' : @Eq Nat a S := q
    omega)).trans e)⟩
theorem lz_call (hh : A.handled = none) (hC : cs.length ≤ 1000) (hc : cs[0]? = some c0) (hx : c0.2.2.size = N) (hN : N ≤ 1000000) (hr : ∀ i, i < N → RowAt cs i (rows i)) {s : Shared} {Q : Value → Shared → Prop} (z : ZAt s.heap n0 cs (fun _ => 0) .none (.bool false)) (to : TOAt s.heap n0 cs) (hsz : s.heap.objs.size = n0 + cs.length + 3)
    (hQ : ∀ h', LzDone s.heap h' n0 (n0 + cs.length + 3) N rows → Q (.ref (n0 + cs.length + 3)) { s with heap := h' }) :
    wpAny (model prog w) A (PySem.call (.type "list") [.ref (n0 + cs.length + 2)]) Q E s := by
  refine callType_codes (Q₁ := fun obj s₁ => obj = .ref (n0 + cs.length + 3) ∧ s₁ = { s with heap := s.heap.push { cls := .type "list", data := .seq #[] } }) PySem.F.called_list (PySem.F.typeCall_list_1 _) PySem.F.entry_list_init
    (code_list_new _ ⟨by rw [hsz], rfl⟩) fun obj s₁ h₁ => ?_
  obtain ⟨rfl, rfl⟩ := h₁
  have hl : (s.heap.push { cls := .type "list", data := .seq #[] }).get? (n0 + cs.length + 3) = some { cls := .type "list", data := .seq #[] } := by
    rw [← hsz]
    exact Heap.get?_push_size _ rfl
  have up : ∀ a o, s.heap.get? a = some o → (s.heap.push { cls := .type "list", data := .seq #[] }).get? a = some o := fun a o e => Heap.get?_push_of_some _ e
  obtain ⟨vs, v1, v2⟩ := to
  refine ⟨⟨_, hl, rfl⟩, PySem.F.args_list_init_2 _ _, lz_init (A := A.in1) (s := { s with heap := s.heap.push { cls := .type "list", data := .seq #[] } }) hh hC hc hx hN hr rfl (z.up up) ⟨vs, v1, up _ _ v2⟩ (by show (s.heap.push _).objs.size = _; rw [Heap.size_push, hsz]) hl fun h' d => ?_⟩
  exact ⟨rfl, hQ h' ⟨d.lst, d.tup, fun a o ha e => d.old a o ha (up a o e)⟩⟩
end
end Py
/-! list(zip(*x)) in the mirror; range with a step. -/
namespace Py
open PySem PySem.Spec PyProof.Rows L2
section
variable {M : Model} {A : Around} {E : Value → Shared → Prop} {s : Shared}
theorem callWith_typeS {pos : Pos} {T : String} {args : List (Bool × Sem Value)} {Q : Value → Shared → Prop} (hst : args.any (·.1) = true)
    (h : wpAny M A (evalArgs (.type T) true args []) (fun a s₁ => wpAny M A (PySem.call (.type T) a.pos a.kw) Q E s₁) E s) : wpAny M A (callWith pos (.type T) [] args []) Q E s := by
  unfold callWith
  refine wpAny_bind (wpAny_holding (wpAny_mono h (fun a s₁ h₁ => wpAny_bind (wpAny_standAt ?_)) fun _ _ x => x))
  simp only [hst, Bool.true_or]
  refine wpAny_bind (wpAny_pure ?_)
  dsimp only
  exact wpAny_bind (wpAny_mono (wpAny_operate' h₁) (fun r s₂ hr => wpAny_bind (wpAny_holding (wpAny_point (wpAny_pure hr)))) fun _ _ x => x)
end
/-- new tuples, one behind another -/
def updT (H : Hp) (b : Nat) (rows : Nat → List V) : Nat → Hp
  | 0 => H
  | n + 1 => upd (updT H b rows n) (b + n) (.tup (rows n))
theorem updT_ne {H : Hp} {b : Nat} {rows : Nat → List V} : ∀ {n : Nat} {a : Nat}, (∀ j, j < n → a ≠ b + j) → updT H b rows n a = H a
  | 0, a, _ => rfl
  | n + 1, a, h => by
    unfold updT
    rw [upd_ne (h n (Nat.lt_succ_self n))]
    exact updT_ne fun j hj => h j (by omega)
theorem updT_at {H : Hp} {b : Nat} {rows : Nat → List V} : ∀ {n j : Nat}, j < n → updT H b rows n (b + j) = some (.tup (rows j))
  | n + 1, j, h => by
    unfold updT
    by_cases q : j = n
    · subst q
      exact upd_same
    · rw [upd_ne (show @Ne Nat (b + j) (b + n) by omega)]
      exact updT_at (by omega)
theorem updT_same {H : Hp} {b : Nat} {rows : Nat → List V} {n : Nat} (h : ∀ j, j < n → H (b + j) = none) : Same H (updT H b rows n) := fun a o e => by
  rw [updT_ne fun j hj q => by
    rw [q, h j hj] at e
    cases e]
  exact e
section
variable {X : Cx} {pins : List (Addr × Obj)} {σ : L2.St} {H : Hp} {s : Shared}
theorem laid_tups {b : Nat} {rows : Nat → List V} {vals : Nat → List Value} (I : Inv X pins σ H s) (hb : s.heap.objs.size ≤ b) : ∀ (n : Nat) (h' : Heap), (∀ a o, s.heap.get? a = some o → h'.get? a = some o) → (∀ j, j < n → (rows j).length ≤ sizeLine ∧ Vals (rows j) (vals j) ∧ h'.get? (b + j) = some (TupO (vals j))) → Inv X pins σ (updT H b rows n) { s with heap := h' }
  | 0, h', k, _ => I.kept (t' := s.toks) k
  | n + 1, h', k, ht => by
    obtain ⟨G, g1, g2⟩ := restrict h' fun c => decide (c ≠ b + n)
    have gk : ∀ {c : Nat} {o : Obj}, c ≠ b + n → h'.get? c = some o → G.get? c = some o := fun {c o} hc e => by
      rw [g1 c (decide_eq_true hc)]
      exact e
    have I1 := laid_tups (rows := rows) (vals := vals) I hb n G (fun a o e => gk (by
      have t : @LT.lt Nat _ a s.heap.objs.size := Heap.lt_size e
      intro q
      have q' : @Eq Nat a (b + n) := q
      omega) (k a o e)) fun j hj => ⟨(ht j (by omega)).1, (ht j (by omega)).2.1, gk (by omega) (ht j (by omega)).2.2⟩
    obtain ⟨t1, t2, t3⟩ := ht n (Nat.lt_succ_self n)
    have hn : updT H b rows n (b + n) = none := by
      rw [updT_ne fun j hj => by omega]
      exact I.hok.fresh (Nat.le_trans hb (Nat.le_add_right _ _))
    refine I1.laidN (h' := h') (t' := s.toks) (fun c o e => ?_) (g2 _ (decide_eq_false fun z => z rfl)) hn (show ObjOk X.prog X.w _ _ _ (.tup (rows n)) from ⟨t1, vals n, t2, ⟨_, t3, rfl, _, rfl⟩⟩)
    by_cases q : c = b + n
    · rw [q, g2 _ (decide_eq_false fun z => z rfl)] at e
      cases e
    · have e' : G.get? c = some o := e
      rw [g1 c (decide_eq_true q)] at e'
      exact e'
/-- the columns as they stand -/
theorem cols_of (I : Inv X pins σ H s) : ∀ {xs : List V} {kss : List (Bool × List V)}, Paired (fun x kv => ∃ a, x = V.ref a ∧ SqK kv.1 X.K H a kv.2) xs kss → ∀ {us : List Value}, Vals xs us →
    ∃ cs : List Col, us = cs.map cref ∧ cs.length = kss.length ∧ ∀ (m : Nat) (c : Col), cs[m]? = some c → ∃ kv, kss[m]? = some kv ∧ Vals kv.2 c.2.2.toList ∧ SAt c.1 s.heap c.2.1 c.2.2 ∧ c.2.1 < s.heap.objs.size
  | [], [], .nil, us, r => by
    cases r
    exact ⟨[], rfl, rfl, fun m c e => by simp at e⟩
  | x :: xs, kv :: kss, .cons h p, us, r => by
    cases r with
    | cons r rr =>
      obtain ⟨a, rfl, q⟩ := h
      cases r
      obtain ⟨its, v1, v2, v3⟩ := q.at I
      obtain ⟨cs, e1, e2, e3⟩ := cols_of I p rr
      refine ⟨(kv.1, a, its.toArray) :: cs, by rw [e1]; rfl, by simp [e2], fun m c e => ?_⟩
      cases m with
      | zero =>
        cases e
        exact ⟨kv, rfl, v1, v2, v3⟩
      | succ m => exact e3 m c e
def rowV (kss : List (Bool × List V)) (i : Nat) : List V := kss.map fun kv => kv.2.getD i .non
theorem pe_lzip {e : Expr} {te : TE} {pn pos p p2 sp : Pos} (hc : X.calm = true) (hgl : Gl X "list") (hml : X.mg "list" = none) (hg : Gl X "zip") (hm : X.mg "zip" = none) (he : PE X e te)
    (hs : starEach [.Starred e sp] X.env = [(true, eval e X.env)] := by rfl)
    (hs2 : starEach [.Call (.Name "zip" p) [.Starred e sp] [] p2] X.env = (false, eval (.Call (.Name "zip" p) [.Starred e sp] [] p2) X.env) :: starEach [] X.env := by rfl) :
    PE X (.Call (.Name "list" pn) [.Call (.Name "zip" p) [.Starred e sp] [] p2] [] pos) (fun σ H Q => te σ H fun x H1 => ∃ a xs kss N, x = V.ref a ∧ (SqT X.K H1 a xs ∨ SqL X.K H1 a xs) ∧ Paired (fun x kv => ∃ a, x = V.ref a ∧ SqK kv.1 X.K H1 a kv.2) xs kss ∧ 1 ≤ kss.length ∧ kss.length ≤ 1000 ∧ N ≤ 1000000 ∧ (∀ kv ∈ kss, kv.2.length = N) ∧
      ∀ q : Nat, (∀ j, H1 (q + j) = none) → Q (.ref q) (upd (updT H1 (q + 1) (rowV kss) N) q (.lst ((List.range N).map fun j => V.ref (q + 1 + j))))) := by
  refine ⟨fun pins s σ H Q I h => ?_⟩
  refine Call_ (ld_blt I hgl hml boot_list (PyProof.Rows.callWith_type1 (args_cons (Call_ (ld_blt I hg hm PyProof.Rows.boot_zip ?_)) hs2) hs2))
  rw [hs]
  refine callWith_typeS rfl (PySem.W.ks_lone (thn (he.run pins s σ H _ I h) fun v s1 ⟨y, H1, I1, ry, a, xs, kss, N, ey, hxs, hp, c1, c2, c3, c4, q⟩ => ?_))
  subst ey
  obtain rfl : v = Value.ref a := ry
  refine StX.star_any I1 hxs fun us s2 I2 rv => ?_
  obtain ⟨cs, e1, e2, e3⟩ := cols_of I2 hp rv
  subst e1
  refine zipN_call (by omega) (fun c hcm => ?_) fun h2 z to hsz up => args_nil ?_
  · obtain ⟨m, hm, rfl⟩ := List.mem_iff_getElem.mp hcm
    obtain ⟨kv, _, _, w1, w2⟩ := e3 m _ (List.getElem?_eq_getElem hm)
    exact ⟨w1, w2⟩
  have h0 : 0 < cs.length := by omega
  have hsize : ∀ (m : Nat) (c : Col), cs[m]? = some c → c.2.2.size = N := fun m c e => by
    obtain ⟨kv, k1, k2, _, _⟩ := e3 m c e
    have := k2.length
    rw [Array.length_toList, c4 kv (List.mem_of_getElem? k1)] at this
    exact this.symm
  have hc0 : cs[0]? = some cs[0] := List.getElem?_eq_getElem h0
  have I3 : Inv X pins σ H1 { s2 with heap := h2 } := I2.kept (t' := s2.toks) up
  refine lz_call (n0 := s2.heap.objs.size) (cs := cs) (N := N) (rows := fun i => cs.map fun c => c.2.2.getD i .none) (s := { s2 with heap := h2 }) (I3.ok.hd hc) (by omega) hc0 (hsize 0 _ hc0) c3 (fun i hi => ⟨by simp, fun m c e => ?_⟩) z to hsz fun h' d => ?_
  · have hz := hsize m c e
    rw [List.getElem?_map, e]
    show c.2.2[i]? = some (c.2.2.getD i .none)
    rw [Array.getD_eq_getD_getElem?, Array.getElem?_eq_getElem (by omega)]
    rfl
  have old : ∀ a o, s2.heap.get? a = some o → h'.get? a = some o := fun a o e => d.old a o (Heap.lt_size e) (up a o e)
  have hfr : ∀ {c : Nat}, s2.heap.objs.size ≤ c → H1 c = none := fun hcc => I2.hok.fresh hcc
  generalize hS : s2.heap.objs.size + cs.length + 3 = S at *
  obtain ⟨G, g1, g2⟩ := restrict h' fun c => decide (c ≠ S)
  have gk : ∀ {c : Nat} {o : Obj}, c ≠ S → h'.get? c = some o → G.get? c = some o := fun {c o} hcc e => by
    rw [g1 c (decide_eq_true hcc)]
    exact e
  have I4 := laid_tups (rows := rowV kss) (vals := fun i => cs.map fun c => c.2.2.getD i .none) (b := S + 1) I2 (by omega) N G (fun a o e => gk (by
      have t : @LT.lt Nat _ a s2.heap.objs.size := Heap.lt_size e
      intro q
      have q' : @Eq Nat a S := q
      omega) (old a o e)) fun j hj => ⟨by
      unfold rowV
      rw [List.length_map]
      exact Nat.le_trans c2 (by decide), ?_, gk (by omega) (d.tup j hj)⟩
  · obtain ⟨c, hl⟩ := d.lst
    have hn : updT H1 (S + 1) (rowV kss) N S = none := by
      rw [updT_ne fun j hj => by omega]
      exact hfr (by omega)
    have I5 := I4.laidN (a := S) (o := .lst ((List.range N).map fun j => V.ref (S + 1 + j))) (h' := h') (t' := s2.toks) (fun c o e => by
      by_cases q : c = S
      · rw [q, g2 _ (decide_eq_false fun z => z rfl)] at e
        cases e
      · have e' : G.get? c = some o := e
        rw [g1 c (decide_eq_true q)] at e'
        exact e') (g2 _ (decide_eq_false fun z => z rfl)) hn (show ObjOk X.prog X.w _ _ _ (.lst _) from ⟨by
      rw [List.length_map, List.length_range]
      exact Nat.le_trans c3 (by decide), refs (S + 1) N, c, ?_, hl⟩)
    · exact ⟨.ref S, _, I5, rfl, q S fun j => hfr (by omega)⟩
    · unfold refs
      generalize List.range N = l
      induction l with
      | nil => exact .nil
      | cons x l ih => exact .cons rfl ih
  · unfold rowV
    have key : ∀ (kss : List (Bool × List V)) (cs : List Col), cs.length = kss.length → (∀ (m : Nat) (c : Col), cs[m]? = some c → ∃ kv, kss[m]? = some kv ∧ Vals kv.2 c.2.2.toList ∧ kv.2.length = N) → Vals (kss.map fun kv => kv.2.getD j .non) (cs.map fun c => c.2.2.getD j .none) := by
      intro kss
      induction kss with
      | nil =>
        intro cs hl _
        cases cs with
        | nil => exact .nil
        | cons _ _ => simp at hl
      | cons kv kss ih =>
        intro cs hl hm
        cases cs with
        | nil => simp at hl
        | cons c cs =>
          refine .cons ?_ (ih cs (by simpa using hl) fun m c e => hm (m + 1) c e)
          obtain ⟨kv', k1, k2, k3⟩ := hm 0 c rfl
          cases k1
          have hlv := k2.length
          rw [Array.length_toList] at hlv
          obtain ⟨u, hu, ru⟩ := k2.get (i := j) (List.getElem?_eq_getElem (by omega))
          rw [Array.getElem?_toList] at hu
          dsimp only
          rw [List.getD_eq_getElem?_getD, List.getElem?_eq_getElem (by omega), Array.getD_eq_getD_getElem?, hu]
          exact ru
    exact key kss cs e2 fun m c e => by
      obtain ⟨kv, k1, k2, _, _⟩ := e3 m c e
      exact ⟨kv, k1, k2, c4 kv (List.mem_of_getElem? k1)⟩
/-! ### in the mirror -/
variable {W : WX} {ow : Ow} {a b c e : Expr} {m ma mb mc : EM} {pos p p2 pn sp : Pos} {tg : Expr}
theorem cols_rep {K : Frag} {A : AS} {O : OW} {H : Hp} : ∀ {ds : List D} {xss : List (List D)} {vs : List V}, seqsOf ds = some xss → RepL K (AO A O) H ds vs → ∃ kss : List (Bool × List V), Paired (fun x kv => ∃ a, x = V.ref a ∧ SqK kv.1 K H a kv.2) vs kss ∧ kss.length = xss.length ∧ ∀ (j : Nat) (kv : Bool × List V) (xs : List D), kss[j]? = some kv → xss[j]? = some xs → RepL K (AO A O) H xs kv.2
  | [], xss, vs, e, r => by
    cases e
    simp only [RepL] at r
    subst r
    exact ⟨[], .nil, rfl, fun j kv xs q => by simp at q⟩
  | d :: ds, xss, vs, e, r => by
    simp only [RepL] at r
    obtain ⟨v, q, rfl, h1, h2⟩ := r
    unfold seqsOf at e
    cases hd : seqOf d with
    | none =>
      rw [hd] at e
      cases e
    | some kx =>
      obtain ⟨k, xs⟩ := kx
      cases hs : seqsOf ds with
      | none =>
        rw [hd, hs] at e
        cases e
      | some yss =>
        rw [hd, hs] at e
        cases e
        obtain ⟨a, vals, rfl, q1, q2⟩ := rep_sq hd h1
        obtain ⟨kss, p1, p2, p3⟩ := cols_rep hs h2
        refine ⟨(k, vals) :: kss, .cons ⟨a, rfl, q1 _ _ Mv.refl⟩ p1, by simp [p2], fun j kv xs' e1 e2 => ?_⟩
        cases j with
        | zero =>
          cases e1
          cases e2
          exact q2
        | succ j => exact p3 j kv xs' e1 e2
theorem f_lzip (hc : X.calm = true) (hgl : Gl X "list") (hml : X.mg "list" = none) (hg : Gl X "zip") (hm : X.mg "zip" = none) (ha : PE X a (tE X.K W ow ma))
    (hs : starEach [.Starred a sp] X.env = [(true, eval a X.env)] := by rfl)
    (hs2 : starEach [.Call (.Name "zip" p) [.Starred a sp] [] p2] X.env = (false, eval (.Call (.Name "zip" p) [.Starred a sp] [] p2) X.env) :: starEach [] X.env := by rfl) :
    PE X (.Call (.Name "list" pn) [.Call (.Name "zip" p) [.Starred a sp] [] p2] [] pos) (tF X.K W ow (lzipE ma)) :=
  PE.of (pe_lzip hc hgl hml hg hm ha hs hs2) fun σ H Q ⟨A, H0, O, en, R, q⟩ => ⟨A, H0, O, en, R, (Out.bind q).good fun d q1 v H1 s1 r1 => by
    have hrep : ∀ {bs : Bool × List D}, seqOf d = some bs → ∃ pa vs, v = .ref pa ∧ (SqT X.K H1 pa vs ∨ SqL X.K H1 pa vs) ∧ RepL X.K (AO A O) H1 bs.2 vs := by
      intro bs hb
      cases d with
      | lst xs =>
        simp only [seqOf, Option.some.injEq] at hb
        subst hb
        obtain ⟨pa, vs, e, n, h, r⟩ := (by simpa only [Rep] using r1 : ∃ a vs, v = .ref a ∧ ¬ AO A O a ∧ Rd H1 a (.lst vs) ∧ RepL X.K (AO A O) H1 xs vs)
        exact ⟨pa, vs, e, .inr (.inl h), r⟩
      | tup xs =>
        simp only [seqOf, Option.some.injEq] at hb
        subst hb
        obtain ⟨pa, vs, e, h, r⟩ := (by simpa only [Rep] using r1 : ∃ a vs, v = .ref a ∧ SqT X.K H1 a vs ∧ RepL X.K (AO A O) H1 xs vs)
        exact ⟨pa, vs, e, .inl h, r⟩
      | _ => simp [seqOf] at hb
    cases hsq : seqOf d with
    | none =>
      rw [hsq] at q1
      exact (show False from q1).elim
    | some bs =>
      obtain ⟨pa, vs, rfl, hq, r⟩ := hrep hsq
      rw [hsq] at q1
      obtain ⟨bb, ds⟩ := bs
      try dsimp only at q1 r
      cases hss : seqsOf ds with
      | none =>
        rw [hss] at q1
        exact (show False from q1).elim
      | some xss =>
        rw [hss] at q1
        try dsimp only at q1
        split at q1
        · rename_i hz
          obtain ⟨z1, z2, z3, z4⟩ := hz
          obtain ⟨kss, p1, p2, p3⟩ := cols_rep hss r
          have hat : ∀ {j : Nat} {kv : Bool × List V}, kss[j]? = some kv → ∃ xs, xss[j]? = some xs ∧ RepL X.K (AO A O) H1 xs kv.2 := fun {j kv} e => by
            have hj : j < xss.length := by
              rw [← p2]
              exact (List.getElem?_eq_some_iff.mp e).1
            exact ⟨xss[j], List.getElem?_eq_getElem hj, p3 j kv _ e (List.getElem?_eq_getElem hj)⟩
          refine ⟨pa, vs, kss, (xss.headD []).length, rfl, hq, p1, by omega, by omega, z3, fun kv hkv => ?_, fun q2 hq2 => ?_⟩
          · obtain ⟨j, hj, rfl⟩ := List.mem_iff_getElem.mp hkv
            obtain ⟨xs, e1, e2⟩ := hat (List.getElem?_eq_getElem hj)
            rw [← e2.length]
            exact z4 xs (List.mem_of_getElem? e1)
          · have sT : Same H1 (updT H1 (q2 + 1) (rowV kss) (xss.headD []).length) := updT_same fun j _ => by
              have := hq2 (1 + j)
              rwa [← Nat.add_assoc] at this
            have hqn : H1 q2 = none := hq2 0
            have hTn : updT H1 (q2 + 1) (rowV kss) (xss.headD []).length q2 = none := by
              rw [updT_ne fun j hj => by omega]
              exact hqn
            have rl : RepL X.K (AO A O) (updT H1 (q2 + 1) (rowV kss) (xss.headD []).length) (zipAll xss) ((List.range (xss.headD []).length).map fun j => V.ref (q2 + 1 + j)) := by
              unfold zipAll
              have key : ∀ l : List Nat, (∀ j ∈ l, j < (xss.headD []).length) → RepL X.K (AO A O) (updT H1 (q2 + 1) (rowV kss) (xss.headD []).length) (l.map fun i => D.tup (xss.map fun xs => xs.getD i .non)) (l.map fun j => V.ref (q2 + 1 + j)) := by
                intro l
                induction l with
                | nil => intro _; simp [RepL]
                | cons j l ih =>
                  intro hl
                  have hj := hl j List.mem_cons_self
                  simp only [List.map_cons, RepL]
                  refine ⟨_, _, rfl, ?_, ih fun x hx => hl x (List.mem_cons_of_mem _ hx)⟩
                  simp only [Rep]
                  refine ⟨_, rowV kss j, rfl, .inl (.inl (updT_at hj)), ?_⟩
                  unfold rowV
                  have key2 : ∀ (xss : List (List D)) (kss : List (Bool × List V)), kss.length = xss.length → (∀ (i : Nat) (kv : Bool × List V) (xs : List D), kss[i]? = some kv → xss[i]? = some xs → RepL X.K (AO A O) H1 xs kv.2 ∧ j < xs.length) → RepL X.K (AO A O) H1 (xss.map fun xs => xs.getD j .non) (kss.map fun kv => kv.2.getD j .non) := by
                    intro xss
                    induction xss with
                    | nil =>
                      intro kss hl _
                      have : kss = [] := List.eq_nil_of_length_eq_zero hl
                      subst this
                      simp [RepL]
                    | cons xs xss ih2 =>
                      intro kss hl hm
                      cases kss with
                      | nil => simp at hl
                      | cons kv kss =>
                        obtain ⟨r1, r2⟩ := hm 0 kv xs rfl rfl
                        obtain ⟨v, hv, rv⟩ := r1.get (i := j) (List.getElem?_eq_getElem r2)
                        simp only [List.map_cons, RepL]
                        refine ⟨_, _, rfl, ?_, ih2 kss (by simpa using hl) fun i kv xs e1 e2 => hm (i + 1) kv xs e1 e2⟩
                        rw [List.getD_eq_getElem?_getD, List.getElem?_eq_getElem r2, List.getD_eq_getElem?_getD, hv]
                        exact rv
                  exact RepL.move (Mv.same sT) _ _ (key2 xss kss p2 fun i kv xs e1 e2 => ⟨p3 i kv xs e1 e2, by rw [z4 xs (List.mem_of_getElem? e2)]; exact hj⟩)
              exact key _ fun j hj => List.mem_range.mp hj
            exact q1 q2 _ (s1.free hqn) (s1.trans (fun c o e => new_same hTn _ _ (sT _ _ e))) (new_own hTn rl)
        · exact (show False from q1).elim⟩
/-! ### range with a step -/
theorem size_up {i j c : Int} (hc : 0 < c) : Builtin.Range.rangeSize i j c = (((j - i + c - 1) / c).toNat : Nat) := by
  unfold Builtin.Range.rangeSize
  rw [if_pos hc]
  by_cases h : i < j
  · rw [if_pos h]
    have e : j - i + c - 1 = (j - i - 1) + 1 * c := by omega
    rw [e, Int.add_mul_ediv_right _ _ (by omega)]
    have := Int.ediv_nonneg (a := j - i - 1) (b := c) (by omega) (by omega)
    omega
  · rw [if_neg h]
    have := Int.ediv_lt_of_lt_mul hc (show j - i + c - 1 < 1 * c by omega)
    omega
theorem small_up {i j c : Int} (h1 : -(2 : Int) ^ 62 ≤ i) (h2 : i < 2 ^ 62) (h3 : -(2 : Int) ^ 62 ≤ j) (h4 : j < 2 ^ 62) (hc : 0 < c ∧ c < 1073741824) : Builtin.Range.small i j c = true := by
  have e62 : (2 : Int) ^ 62 = 4611686018427387904 := by decide
  have hs0 : 0 ≤ Builtin.Range.rangeSize i j c := by rw [size_up hc.1]; omega
  have hs1 : Builtin.Range.rangeSize i j c ≤ 9223372036854775807 := by
    unfold Builtin.Range.rangeSize
    rw [if_pos hc.1]
    by_cases h : i < j
    · rw [if_pos h]
      have := Int.ediv_le_self (a := j - i - 1) c (by omega)
      omega
    · rw [if_neg h]
      omega
  unfold Builtin.Range.small
  generalize Builtin.Range.rangeSize i j c = S at *
  have f : ∀ x : Int, -9223372036854775808 ≤ x → x ≤ 9223372036854775807 → Builtin.Range.rangeFitsLong x = true := fun x a b => by
    unfold Builtin.Range.rangeFitsLong
    have e63 : (2 : Int) ^ 63 = 9223372036854775808 := by decide
    simp
    omega
  rw [f i (by omega) (by omega), f j (by omega) (by omega), f c (by omega) (by omega), f S (by omega) (by omega), if_pos hc.1, f (j + (c - 1)) (by omega) (by omega)]
  simp
theorem size_dn {i j : Int} : Builtin.Range.rangeSize i j (-1) = ((i - j).toNat : Nat) := by
  unfold Builtin.Range.rangeSize
  rw [if_neg (by decide)]
  by_cases h : i > j
  · rw [if_pos h]
    have e : -(-1 : Int) = 1 := rfl
    rw [e, Int.ediv_one]
    omega
  · rw [if_neg h]
    omega
theorem small_dn {i j : Int} (h1 : -(2 : Int) ^ 62 ≤ i) (h2 : i < 2 ^ 62) (h3 : -(2 : Int) ^ 62 ≤ j) (h4 : j < 2 ^ 62) : Builtin.Range.small i j (-1) = true := by
  unfold Builtin.Range.small
  rw [size_dn]
  simp only [Builtin.Range.rangeFitsLong, Bool.and_eq_true, Bool.or_eq_true, decide_eq_true_eq, beq_iff_eq, show ¬ ((-1 : Int) > 0) by decide, if_false]
  omega
theorem size3 {i j c : Int} (h : 0 < c ∨ c = -1) : Builtin.Range.rangeSize i j c = (cnt3 i j c : Nat) := by
  unfold cnt3
  rcases h with h | rfl
  · rw [if_pos h, size_up h]
  · rw [if_neg (by decide), size_dn]
theorem small3 {i j c : Int} (h1 : -(2 : Int) ^ 62 ≤ i) (h2 : i < 2 ^ 62) (h3 : -(2 : Int) ^ 62 ≤ j) (h4 : j < 2 ^ 62) (hc : (0 < c ∨ c = -1) ∧ c < 1073741824) : Builtin.Range.small i j c = true := by
  rcases hc.1 with h | rfl
  · exact small_up h1 h2 h3 h4 ⟨h, hc.2⟩
  · exact small_dn h1 h2 h3 h4
theorem itm_rangeC {K : Frag} {A : AS} {H : Hp} {lo hi c : Int} : Itm Mv K A (Itc lo c (cnt3 lo hi c)) (rng3L lo hi c) H := fun i A2 H2 m => by
  have hl : (rng3L lo hi c).length = cnt3 lo hi c := by unfold rng3L; simp
  rw [hl]
  refine ⟨fun h => ⟨h, fun x H3 ⟨e1, e2⟩ => ?_⟩, fun h => Nat.le_of_eq h.symm⟩
  subst e1 e2
  refine ⟨Same.refl _, .int (lo + (i : Nat) * c), ?_, rfl⟩
  unfold rng3L
  rw [List.getElem?_map, List.getElem?_range h]
  rfl
theorem i_rng3 (hg : Gl X "range") (hm : X.mg "range" = none) (ha : PE X a (tE X.K W ow ma)) (hb : PE X b (tE X.K W ow mb)) (hc : PE X c (tE X.K W ow mc)) (hs : starEach [a, b, c] X.env = [(false, eval a X.env), (false, eval b X.env), (false, eval c X.env)] := by rfl) (hs2 : starEach [b, c] X.env = [(false, eval b X.env), (false, eval c X.env)] := by rfl) (hs3 : starEach [c] X.env = [(false, eval c X.env)] := by rfl) (hpl : (backTo pos (starEach [b, c] X.env)).any (·.1) = false := by rfl) :
    PI X tg (.Call (.Name "range" p) [a, b, c] [] pos) (tI Mv X.K W ow (irng3 ma mb mc)) :=
  PI.of (pi_range3 hg hm (pa_cons ha (pa_cons hb (pa_cons hc pa_nil hs3) (by rw [hs2, hs3])) (by rw [hs, hs2])) (by rw [hs, hs2]) hpl) fun σ H R' ⟨A, H0, O, en, R, q⟩ => ⟨A, H0, O, en, R, (Out.bind q).good fun d q1 v H1 s1 r1 => ⟨A, H0, O, en, R.to s1, ((Out.bind q1).to s1).good fun d2 q2 v2 H2 s2 r2 => by
    have q2' : Out (mc en >>= fun z => match d, d2, z with
      | .int m, .int n, .int k => if m.natAbs < B62 ∧ n.natAbs < B62 ∧ (0 < k ∨ k = -1) ∧ k.natAbs < 1073741824 then Res.ok (rng3L m n k) else .stuck
      | _, _, _ => .stuck) _ _ := q2
    refine ⟨A, H0, O, en, (R.to s1).to s2, ((Out.bind q2').to (s1.trans s2)).good fun d3 q3 v3 H3 s3 r3 => ?_⟩
    cases d with
    | int i =>
      cases d2 with
      | int n =>
        cases d3 with
        | int k =>
          simp only at q3
          split at q3
          · rename_i z
            have r1' : v = .int i := r1
            have r2' : v2 = .int n := r2
            have r3' : v3 = .int k := r3
            subst r1' r2' r3'
            obtain ⟨z1, z2, z3, z4⟩ := z
            have hk : k < 1073741824 ∧ k.natAbs < 1073741824 := by omega
            exact ⟨i, n, k, cnt3 i n k, rfl, ⟨by omega, hk.2, small3 (nb62 z1).1 (nb62 z1).2 (nb62 z2).1 (nb62 z2).2 ⟨z3, hk.1⟩, size3 z3⟩, q3 _ H3 ((s1.trans s2).trans s3) itm_rangeC⟩
          · exact (show False from q3).elim
        | _ => exact (show False from q3).elim
      | _ => exact (show False from q3).elim
    | _ => exact (show False from q3).elim⟩⟩
end
end Py
/-! A slice of a list is a new list. -/
/-! == by an own __eq__. -/
/-! sorted(xs) of numbers, of tuples of numbers and tuples. -/
/-! Draws. -/
namespace Py
open PySem PySem.Spec PyProof.Rows L2
theorem rep_ints_inv {K : Frag} {A : AS} {H : Hp} : ∀ {xs : List D} {is : List Int} {vs : List V}, allI xs = some is → RepL K A H xs vs → vs = is.map V.int
  | [], is, vs, e, r => by
    simp only [allI, Option.some.injEq] at e
    subst e
    simpa [RepL] using r
  | d :: xs, is, vs, e, r => by
    cases d <;> simp only [allI, reduceCtorEq] at e
    rename_i i
    cases h : allI xs with
    | none => rw [h] at e; cases e
    | some js =>
      rw [h] at e
      simp only [Option.map_some, Option.some.injEq] at e
      subst e
      simp only [RepL] at r
      obtain ⟨v, w, rfl, h1, h2⟩ := r
      rw [rep_ints_inv h h2]
      have h1' : v = .int i := h1
      rw [h1']
      rfl
theorem repW_cells {K : Frag} {A : AS} {H : Hp} {q : Nat × List Int} {v : V} (h : RepW K A H (.drw (.inr q)) v) : RepW K A H (.lst (q.2.map .int)) v := by
  obtain ⟨e, n, r⟩ := (by simpa only [RepW, Rep] using h : v = .ref q.1 ∧ ¬ A q.1 ∧ Rd H q.1 (.lst (q.2.map V.int)))
  exact ⟨q.1, _, e, r, repL_ints q.2⟩
section
variable {fr : Rm} {X : Cx} {W : WX} {A : AS} {H0 : Base} {ow oN oB : Ow} {a b c e : Expr} {es : List Expr} {m ma mb mc : EM} {am : AM} {pos : Pos} {body : List Stmt} {t : TS}
theorem y_idxC (hu : X.A.units + 16 < cLine) : IxR X (r2 X.K oidxC) := by
  intro value slice pins s σ H x y v u Q I rx ry ⟨A, d1, d2, d, h1, h2, ha, e, k⟩ hs
  cases d1 with
  | drw q =>
    cases q with
    | inl _ => cases e
    | inr q => exact y_idx hu value slice pins s σ H x y v u Q I rx ry ⟨A, _, d2, d, repW_cells h1, h2, ha, e, k⟩ hs
  | _ => cases e
theorem Ctx.ixC {X : Cx} {W : WX} {k : Nat} (T : Ctx X W k) : IxR X (r2 X.K oidxC) := y_idxC (by have := T.hr.un; omega)
theorem n_idxC : NoEx2 oidxC := fun x y c fs => by
  cases x with
  | drw q =>
    cases q with
    | inl _ => rfl
    | inr q => exact n_idx _ _ () ()
  | _ => rfl
theorem v_lenC : CallR X (.builtin "len") (c1 X.K blenC) := fun pins s σ H xs us Q I rx ⟨x, e0, A, d1, d, h1, ha, e, k⟩ => by
  cases d1 with
  | drw q =>
    cases q with
    | inl _ => cases e
    | inr q => exact v_len pins s σ H xs us Q I rx ⟨x, e0, A, _, d, repW_cells h1, ha, e, k⟩
  | _ => cases e
theorem n_lenC : NoEx1 blenC := fun x c fs => by
  cases x with
  | drw q =>
    cases q with
    | inl _ => rfl
    | inr q => exact n_len (.lst (q.2.map .int)) () ()
  | _ => rfl
theorem x_idxC (hi : IxR X (r2 X.K oidxC)) (ha : PE X a (tW X.K W ow ma)) (hb : PE X b (tW X.K W ow mb)) (hs : PlainIx b := by exact fun _ _ => rfl) : PE X (.Subscript a b pos) (tE X.K W ow (bin oidxC ma mb)) :=
  PE.of (pe_ix hi ha hb hs) fun _ _ _ h => two_of n_idxC h
theorem s_retB (h : PE X a (tE X.K W ow m)) (h0 : ow 0 = true) : PS X (.Return (some a) pos) (tS3 .lent X.K W ow oN oB (retB m)) :=
  PS.of (ps_ret h) fun D σ H ⟨A, H0, O, en, R, q⟩ => ⟨A, H0, O, en, R, ((Out.bind q).se R).good fun d q1 v H1 s1 r1 => by
    obtain ⟨l, hl, q2⟩ := var_ok q1
    obtain ⟨b, p1, p2, p3⟩ := (R.to s1).owns 0 l hl h0
    have q3 : EndOk3 .lent X.K A H0 oN oB O H D (.ret (.tup [d, l])) := q2
    exact q3 v H1 (R.same.trans s1) ⟨d, l, rfl, Rep.move (Mv.less fun b => .inl) _ _ r1, fun x hx => by
      have z := (R.to s1).pin x hx
      rw [z] at p1
      cases p1
      exact p3.move (Mv.less fun b => .inl) rfl⟩⟩
/-! ### a pool is opened, closed -/
theorem Inv.opened {pins : List (Addr × Obj)} {σ : L2.St} {H : Hp} {s : Shared} {k : Bool} {x a0 : Addr} (I : Inv X pins σ H s) (h : H x = some (poolO k x a0)) :
    ∃ vs, PoolV k a0 vs ∧ Inv X pins σ (upd H x (.lst vs)) s := by
  obtain ⟨⟨vs, its, n, hp, hv, hg⟩, ho, _⟩ := I.hok x _ h
  refine ⟨vs, hp, ?_⟩
  have hl : vs.length ≤ sizeLine := by
    cases k
    · obtain ⟨p, c, m, rfl, _⟩ := hp
      exact (by decide : 4 ≤ sizeLine)
    · obtain ⟨p, c, j, m, rfl, _⟩ := hp
      exact (by decide : 5 ≤ sizeLine)
  exact L2.Inv.write (e := x) (o := .lst vs) (t' := s.toks) I (by rw [h]; exact True.intro) (.inl rfl) (fun b u _ q => q) ⟨_, hg⟩ ⟨hl, its, n, hv, hg⟩
theorem Inv.closed {pins : List (Addr × Obj)} {σ : L2.St} {H : Hp} {s : Shared} {k : Bool} {x a0 : Addr} {vs : List V} (I : Inv X pins σ H s) (h : H x = some (.lst vs)) (hp : PoolV k a0 vs) :
    Inv X pins σ (upd H x (poolO k x a0)) s := by
  obtain ⟨hl, its, n, hv, hg⟩ := I.hok x _ h
  refine L2.Inv.write (e := x) (o := poolO k x a0) (t' := s.toks) I (by rw [h]; exact True.intro) (.inl rfl) (fun b u _ q => q) ⟨_, hg⟩ ⟨⟨vs, its, n, hp, hv, hg⟩, ⟨_, hg⟩, ?_⟩
  rintro h1 h2 ⟨vs', its', n', hp', hv', hg'⟩ kk
  exact ⟨vs', its', n', hp', hv', kk _ hg'⟩
def tOpen (t : TS) : TS := fun D σ H => ∃ k x a0, H x = some (poolO k x a0) ∧ ∀ vs, PoolV k a0 vs → t { nx := fun _ _ => False, rt := fun v H' => ∃ vs', PoolV k a0 vs' ∧ H' x = some (.lst vs') ∧ D.rt v (upd H' x (poolO k x a0)) } σ (upd H x (.lst vs))
theorem pss_open (h : PSs X body t) : PSs X body (tOpen t) := ⟨fun pins s σ H D I ⟨k, x, a0, hx, q⟩ => by
  obtain ⟨vs, hp, J⟩ := Inv.opened I hx
  refine thn (h.run pins s σ _ _ J (q vs hp)) fun f s' z => ?_
  cases f with
  | next => obtain ⟨_, _, _, z⟩ := z; exact z.elim
  | brk => obtain ⟨_, _, _, z⟩ := z; exact z.elim
  | cont => obtain ⟨_, _, _, z⟩ := z; exact z.elim
  | ret u =>
    obtain ⟨v, σ', H', I', r', vs', p', e', d'⟩ := z
    exact ⟨v, σ', _, Inv.closed I' e' p', r', d'⟩⟩
theorem pool_v {K : Frag} {k : Bool} {A : AS} {H : Hp} {a0 : Nat} {xs : List Int} {ds : List D} {vs : List V} (h : DV k a0 xs ds) (r : RepL K A H ds vs) : PoolV k a0 vs := by
  cases k
  · obtain ⟨p, c, m, rfl, h1, h2, h3⟩ := h
    simp only [RepL, Rep] at r
    obtain ⟨v0, r0, rfl, ⟨rfl, _⟩, v1, r1, rfl, rfl, v2, r2, rfl, rfl, v3, r3, rfl, rfl, rfl⟩ := r
    exact ⟨p, c, m, rfl, h1, h2, h3⟩
  · obtain ⟨p, c, j, m, rfl, h1, h2, h3⟩ := h
    simp only [RepL, Rep] at r
    obtain ⟨v0, r0, rfl, ⟨rfl, _⟩, v1, r1, rfl, rfl, v2, r2, rfl, rfl, v3, r3, rfl, rfl, v4, r4, rfl, rfl, rfl⟩ := r
    exact ⟨p, c, j, m, rfl, h1, h2, h3⟩
theorem pool_d {K : Frag} {k : Bool} {A : AS} {H : Hp} {a0 : Nat} {xs : List Int} {vs : List V} (h : PoolV k a0 vs) (na : ¬ A a0) (r : Rd H a0 (.lst (xs.map V.int))) : ∃ ds, DV k a0 xs ds ∧ RepL K A H ds vs := by
  cases k
  · obtain ⟨p, c, m, rfl, h1, h2, h3⟩ := h
    refine ⟨_, ⟨p, c, m, rfl, h1, h2, h3⟩, ?_⟩
    simp only [RepL, Rep]
    exact ⟨_, _, rfl, ⟨rfl, na, r⟩, _, _, rfl, rfl, _, _, rfl, rfl, _, _, rfl, rfl, rfl⟩
  · obtain ⟨p, c, j, m, rfl, h1, h2, h3⟩ := h
    refine ⟨_, ⟨p, c, j, m, rfl, h1, h2, h3⟩, ?_⟩
    simp only [RepL, Rep]
    exact ⟨_, _, rfl, ⟨rfl, na, r⟩, _, _, rfl, rfl, _, _, rfl, rfl, _, _, rfl, rfl, _, _, rfl, rfl, rfl⟩
end
theorem ar_pick {k : Bool} : Ar 2 (pickF k) := ⟨fun ds h => by
  match ds, h with
  | [], _ => rfl
  | [_], _ => simp [pickF]
  | _ :: _ :: _ :: _, _ => simp [pickF]
  | [a, b], h => exact absurd rfl h⟩
theorem rd_ne {H : Hp} {a0 x : Addr} {k : Bool} {vs : List V} (h : H x = some (poolO k x a0)) (r : Rd H a0 (.lst vs)) : a0 ≠ x := fun e => by
  subst e
  rcases r with r | ⟨o, r⟩ <;> (rw [h] at r; cases r)
theorem Rd.upd {H : Hp} {a x : Addr} {u o : HO} (r : Rd H a u) (h : a ≠ x) : Rd (upd H x o) a u := by
  rcases r with r | ⟨q, r⟩
  · exact .inl (by rw [upd_ne h]; exact r)
  · exact .inr ⟨q, by rw [upd_ne h]; exact r⟩
section
variable {P : Program} {w : World} {K : Frag} {mg : Str → Option Value} {base : Heap} {k : Nat} {oN oB : Ow} {m : SM} {f : Addr} {N ps : List Str} {n : Nat}
theorem draw_start {kk : Bool} {E : XK} {vs : List V} {H : Hp} {Q : VK} (hN : 2 ≤ N.length) (hD : Draws kk N.length m) (h : spM K 2 (pickF kk) vs H Q E) :
    tOpen (tS3 .lent K (WD E) ⟨fun i => i == 0, none⟩ oN oB m) { nx := fun _ H' => Q .non H', rt := Q } (L2.start N vs) H := by
  obtain ⟨A, ds, r, hl, ha, q⟩ := h
  match ds, hl with
  | [d1, d2], _ =>
  cases d1 with
  | drw z =>
    cases z with
    | inl q0 =>
      cases d2 with
      | int many =>
        simp only [pickF] at q
        split at q
        · rename_i hc
          obtain ⟨rfl, h1, h2⟩ := hc
          simp only [RepL, Rep] at r
          obtain ⟨v0, r0, rfl, ⟨x, a0, xs, rfl, nx, hx, na, rd⟩, v1, r1, rfl, rfl, rfl⟩ := r
          refine ⟨q0, x, a0, hx, fun vs hv => ?_⟩
          have hne := rd_ne hx rd
          have nO : ∀ i y, (if i = 0 then some x else none) = some y → i = 0 ∧ y = x := fun i y h => by
            by_cases hi : i = 0
            · rw [if_pos hi] at h
              cases h
              exact ⟨hi, rfl⟩
            · rw [if_neg hi] at h
              cases h
          have nAO : ¬ AO A (fun i => if i = 0 then some x else none) a0 := fun z => z.elim na fun ⟨i, z⟩ => hne (nO i a0 z).2
          obtain ⟨ds, hds, rds⟩ := pool_d (K := K) (A := AO A fun i => if i = 0 then some x else none) (H := upd H x (.lst vs)) hv nAO (Rd.upd rd hne)
          obtain ⟨rr, ds', hb, hr1, hr2, hds'⟩ := hD a0 xs ds many hds h1 h2
          refine ⟨A, ⟨fun b => if b = x then none else H b, some x⟩, fun i => if i = 0 then some x else none, [some (.lst ds), some (.int many)] ++ List.replicate (N.length - 2) none, ?_, ?_⟩
          · refine ⟨?_, fun b hb => ?_, fun b o e => ?_, fun i d g1 g2 => ?_, fun i d g1 g2 => ?_, fun i y g => ?_, fun i j y g g' => (nO i y g).1.trans (nO j y g').1.symm, fun y g => by cases g; rfl, XFact.none rfl⟩
            · unfold L2.start
              simp only [List.length_append, List.length_map, List.length_replicate, List.length_cons, List.length_nil]
            · by_cases e : b = x
              · rw [e, upd_same]
                exact fun z => nomatch z
              · rw [upd_ne e]
                exact ha b hb
            · have e : (if b = x then none else H b) = some o := e
              by_cases e2 : b = x
              · rw [if_pos e2] at e
                cases e
              · rw [if_neg e2] at e
                rw [upd_ne e2]
                exact e
            · match i with
              | 0 => exact absurd g2 (by simp)
              | 1 =>
                simp at g1
                subst g1
                exact ⟨_, start_get (i := 1) rfl, rfl⟩
              | i + 2 =>
                rw [List.getElem?_append_right (by simp), List.getElem?_replicate] at g1
                split at g1 <;> cases g1
            · match i with
              | 0 =>
                simp at g1
                subst g1
                exact ⟨x, rfl, start_get (i := 0) rfl, vs, upd_same, rds⟩
              | i + 1 => exact absurd g2 (by simp)
            · obtain ⟨rfl, rfl⟩ := nO i y g
              exact ⟨if_pos rfl, by rw [upd_same]; exact fun z => (nomatch z), nx⟩
          · rw [hb]
            intro v H' s' ⟨rv, l, e, g1, g2⟩
            cases e
            obtain ⟨vs', e1, rl⟩ := g2 x rfl
            refine ⟨vs', pool_v hds' rl, e1, ?_⟩
            have hv : v = .int rr := g1
            subst hv
            refine q rr.toNat (by omega) (.int rr) _ (fun b o e => ?_) (by
              have : (rr.toNat : Int) = rr := by omega
              show V.int rr = V.int (rr.toNat : Int)
              rw [this])
            by_cases e2 : b = x
            · subst e2
              rw [hx] at e
              cases e
              exact upd_same
            · rw [upd_ne e2]
              exact s' b o (by show (if b = x then none else H b) = some o; rw [if_neg e2]; exact e)
        · exact q.elim
      | _ => simp only [pickF] at q; exact q.elim
    | inr _ => cases d2 <;> (simp only [pickF] at q; exact q.elim)
  | _ => cases d2 <;> (simp only [pickF] at q; exact q.elim)
theorem def_okP {d : He.DefD} {kk : Bool} (F : ∃ fd, FunD K d.name d.qual d.params d.body d.scope [] [] f fd) (g : mg d.name = some (.ref f)) (S : FnScope N ps d.scope) (hpl : ps.length = 2) (hnl : N.length = n) (hD : Draws kk n m)
    (hbind : ∀ (kV doc pm : Value) (an : Option Addr) (cdv ct : Value) (us : List Value), us.length = ps.length → bindArgs (PySem.W.fnOf d.name d.qual d.params d.body d.scope .none kV doc pm an cdv ct) ⟨us, []⟩ = pure (ps.zip us))
    (hb : ∀ (cdv : Value) (A : Around) (outer : List PySem.Env) (s : Shared) (H : Hp) (E : XK), Ctx (cxOf (L2N.CX P w) P w K mg base N d.qual d.scope f cdv A outer s H E) (WD E) k →
      PSs (cxOf (L2N.CX P w) P w K mg base N d.qual d.scope f cdv A outer s H E) d.body (tS3 .lent K (WD E) ⟨fun i => i == 0, none⟩ oN oB m)) : CallOk P w K mg base (k + 1) d.name d ps 2 (pickF kk) := by
  obtain ⟨fd, F⟩ := F
  subst hnl
  refine ⟨f, fd, g, F.kp, FunD.bindsN F hbind, ?_, ar_pick, F⟩
  refine F.ok S (fun vs H Q E ⟨A, ds, r, h, _⟩ => by rw [hpl]; exact r.length.symm.trans h) (fun cdv A outer s H vs Q E hr h => ?_)
  exact ⟨_, pss_open (hb cdv A outer s H E ⟨rfl, L2N.takes_of rfl rfl rfl rfl, passes_of rfl, hr, S.nd⟩), draw_start (by rw [← hpl]; exact pre_le S.pre) hD h⟩
end
/-! ### a new pool -/
def tPool (t : TE) : TE := fun σ H Q => t σ H fun v H' => ∃ k x a0 vs, v = .ref x ∧ H' x = some (.lst vs) ∧ PoolV k a0 vs ∧ Q v (upd H' x (poolO k x a0))
section
variable {X : Cx} {W : WX} {ow : Ow} {e : Expr} {m : EM}
theorem pe_pool {t : TE} (h : PE X e t) : PE X e (tPool t) := ⟨fun pins s σ H Q I q => thn (h.run pins s σ H _ I q) fun u s' ⟨v, H', I', r', k, x, a0, vs, e1, e2, e3, e4⟩ => ⟨v, _, Inv.closed I' e2 e3, r', e4⟩⟩
theorem pool_end {K : Frag} {A : AS} {O : OW} {H H' : Hp} {Q : VK} {a : Addr} {k : Bool} {xs : List D} {vs : List V} (h0 : ∀ b, AO A O b → H b ≠ none) (n : H a = none) (s : Same H H') (e : H' a = some (.lst vs)) (hx : (allI xs).isSome)
    (hr : ∃ a0, (¬ AO A O a0 ∧ a0 ≠ a) ∧ (∃ ws, Rd H' a0 (.lst ws) ∧ RepL K (fun b => AO A O b ∨ b = a) H' xs ws) ∧ PoolV k a0 vs) (q : ∀ v H2, Same H H2 → Rep K (AO A O) H2 (.drw (.inl k)) v → Q v H2) :
    ∃ k x a0 vs, V.ref a = .ref x ∧ H' x = some (.lst vs) ∧ PoolV k a0 vs ∧ Q (.ref a) (upd H' x (poolO k x a0)) := by
  obtain ⟨a0, ⟨h1, h2⟩, ⟨ws, h3, h4⟩, h5⟩ := hr
  refine ⟨k, a, a0, vs, rfl, e, h5, q _ _ (fun b o g => ?_) ?_⟩
  · rw [upd_ne (fun z => by rw [z, n] at g; cases g)]
    exact s b o g
  · obtain ⟨is, his⟩ := Option.isSome_iff_exists.mp hx
    have hw := rep_ints_inv his h4
    subst hw
    simp only [Rep]
    exact ⟨a, a0, is, rfl, fun z => h0 a z n, upd_same, h1, Rd.upd h3 h2⟩
theorem x_pool (h : PE X e (tF X.K W ow m)) : PE X e (tE X.K W ow (mkp m)) :=
  PE.of (pe_pool h) fun σ H Q ⟨A, H0, O, en, R, q⟩ => ⟨A, H0, O, en, R, (Out.bind q).good fun d q1 a H' n s o => by
    rcases mkpF_inv d with hd | ⟨xs, p, c, u, rfl, hc, hd⟩ | ⟨xs, p, c, j, u, rfl, hc, hd⟩
    · rw [hd] at q1
      exact q1.elim
    · rw [hd] at q1
      obtain ⟨vs, e1, r⟩ := o
      simp only [RepL, Rep] at r
      obtain ⟨v0, r0, rfl, ⟨a0, ws, rfl, na, rd, rl⟩, v1, r1, rfl, rfl, v2, r2, rfl, rfl, v3, r3, rfl, rfl, rfl⟩ := r
      exact pool_end (k := false) R.there n s e1 hc.1 ⟨a0, ⟨fun z => na (.inl z), fun z => na (.inr z)⟩, ⟨ws, rd, rl⟩, ⟨p, c, u, rfl, hc.2⟩⟩ q1
    · rw [hd] at q1
      obtain ⟨vs, e1, r⟩ := o
      simp only [RepL, Rep] at r
      obtain ⟨v0, r0, rfl, ⟨a0, ws, rfl, na, rd, rl⟩, v1, r1, rfl, rfl, v2, r2, rfl, rfl, v3, r3, rfl, rfl, v4, r4, rfl, rfl, rfl⟩ := r
      exact pool_end (k := true) R.there n s e1 hc.1 ⟨a0, ⟨fun z => na (.inl z), fun z => na (.inr z)⟩, ⟨ws, rd, rl⟩, ⟨p, c, j, u, rfl, hc.2⟩⟩ q1⟩
end
theorem always_out {α : Type} {P : α → Prop} {r : Res α} {good : α → Prop} {bad : String → List (String × Py.D) → Prop} (h : Always P r) (k : ∀ a, P a → good a) : Out r good bad := by
  induction r with
  | ok a => exact k a h
  | exc c fs => exact h.elim
  | stuck => exact h.elim
  | pick n f ih => exact fun i hi => ih i (h i hi)
/-- whatever is drawn, the law holds -/
theorem sp_lawA {K : Frag} {fm : List Py.D → Res Py.D} (hL : noL K = true) {H : Hp} {a : Addr} {ns : List Int} (hm : Always (fun d => d = .bl true) (fm [.lst (ns.map .int)])) (hS : SqL K H a (ns.map V.int)) :
    spM K 1 fm [.ref a] H (fun v _ => v = .bl true) fun _ _ _ => False := by
  refine ⟨fun _ => False, [.lst (ns.map .int)], ?_, rfl, fun _ h => h.elim, always_out hm fun d e => ?_⟩
  · simp only [RepL]
    refine ⟨_, _, rfl, ?_, rfl⟩
    simp only [Rep]
    exact ⟨a, _, rfl, id, sqL_rd hL hS, ints_rep ns⟩
  · subst e
    exact fun v H' _ r => r
end Py
namespace Py
def b_as_tuple : SM :=
  (seq (ite (tst (un (oisi CS [.lst, .tup]) (var 0))) (ret (un btuple (var 0))) skip)
  (ret (cst .non)))
def m_as_tuple : List D → Res D := fn 1 1 b_as_tuple
def b_is_integer : SM :=
  (ret (andE (un (oisi CS [.int]) (var 0)) (un onb (un (oisi CS [.bl]) (var 0)))))
def m_is_integer : List D → Res D := fn 1 1 b_is_integer
def b_is_below : SM :=
  (ret (andE (call m_is_integer (argC (var 0) argN)) (Py.chain ole olt (cst (.int 0)) (var 0) (var 1))))
def m_is_below : List D → Res D := fn 2 2 b_is_below
def b_are_values : SM :=
  (ret (un ball (lcE (iseq (var 0)) [2] (gnm 2) yes (call m_is_below (argC (var 2) (argC (var 1) argN))))))
def m_are_values : List D → Res D := fn 2 3 b_are_values
def b_is_count_deed : SM :=
  (seq (ite (tst (bin Py.one (un blen (var 0)) (cst (.int 4)))) (ret (cst (.bl false))) skip)
  (seq (asg (gtup [(gnm 2), (gnm 3), (gnm 4)]) (slc (var 0) (some (cst (.int 1))) none))
  (seq (ite (orT (notT (tst (call m_is_integer (argC (var 2) argN)))) (orT (tst (bin onotin (var 2) (tupE (argC (cst (.int 2)) (argC (cst (.int 3)) (argC (cst (.int 5)) argN)))))) (notT (tst (call m_is_below (argC (var 3) (argC (var 2) argN))))))) (ret (cst (.bl false))) skip)
  (ret (andE (un (oisi CS [.tup]) (var 4)) (andE (Py.chain ole ole (cst (.int 1)) (un blen (var 4)) (cst (.int 4))) (call m_are_values (argC (var 4) (argC (var 1) argN)))))))))
def m_is_count_deed : List D → Res D := fn 2 5 b_is_count_deed
def b_is_deed : SM :=
  (seq (ite (orT (notT (tst (un (oisi CS [.tup]) (var 0)))) (orT (notT (tst (var 0))) (notT (tst (un (oisi CS [.str]) (bin oidx (var 0) (cst (.int 0)))))))) (ret (cst (.bl false))) skip)
  (seq (ite (tst (bin oeq (bin oidx (var 0) (cst (.int 0))) (cst (.str "count")))) (ret (call m_is_count_deed (argC (var 0) (argC (var 1) argN)))) skip)
  (seq (ite (orT (tst (un (onothas tab_SIZES) (bin oidx (var 0) (cst (.int 0))))) (tst (bin Py.one (un blen (var 0)) (bin oadd (un (olook tab_SIZES) (bin oidx (var 0) (cst (.int 0)))) (cst (.int 1)))))) (ret (cst (.bl false))) skip)
  (ret (call m_are_values (argC (slc (var 0) (some (cst (.int 1))) none) (argC (var 1) argN)))))))
def m_is_deed : List D → Res D := fn 2 2 b_is_deed
def b_is_inputs : SM :=
  (ret (andE (call m_is_integer (argC (var 0) argN)) (Py.chain ole ole (cst (.int 1)) (var 0) (cst (.int 3)))))
def m_is_inputs : List D → Res D := fn 1 1 b_is_inputs
def b_Row_init : SM :=
  (seq (ite (notT (tst (call m_is_inputs (argC (var 1) argN)))) (rais "InvalidRow" ["part", "place"] (argC (cst (.str "inputs")) (argC (cst (.int 0)) argN))) skip)
  (seq (asg (gnm 4) (call m_as_tuple (argC (var 2) argN)))
  (seq (ite (tst (un oisN (var 4))) (rais "InvalidRow" ["part", "place"] (argC (cst (.str "deeds")) (argC (cst (.int 0)) argN))) skip)
  (seq (for_ (ienum (var 4)) (gtup [(gnm 5), (gnm 6)]) (ite (notT (tst (call m_is_deed (argC (var 6) (argC (bin oadd (var 1) (var 5)) argN))))) (rais "InvalidRow" ["part", "place"] (argC (cst (.str "deeds")) (argC (var 5) argN))) skip))
  (seq (ite (notT (tst (call m_is_below (argC (var 3) (argC (bin oadd (var 1) (un blen (var 4))) argN))))) (rais "InvalidRow" ["part", "place"] (argC (cst (.str "out")) (argC (cst (.int 0)) argN))) skip)
  (seq (setF 0 ["Row"] "inputs" (var 1))
  (seq (setF 0 ["Row"] "deeds" (var 4))
  (setF 0 ["Row"] "out" (var 3)))))))))
def m_Row : List D → Res D := made 4 7 "Row" b_Row_init
def b__law_first : SM :=
  (seq (asg (gnm 2) (lstE (argC (lcE (iseq (var 0)) [7] (gnm 7) yes (cst (.bl true))) argN)))
  (seq (for_ (irng1 (var 1)) (gnm 3) (seq (asg (gnm 4) (bin oidx (var 2) (un oneg (cst (.int 1)))))
  (app 2 (lcE (iseq (var 0)) [7] (gnm 7) yes (bin ogt (un blen (lcE (iseq (var 7)) [8] (gnm 8) (tst (bin oidx (var 4) (bin oidx (var 8) (cst (.int 1))))) (var 8))) (cst (.int 0)))))))
  (seq (ite (notT (tst (bin oidx (bin oidx (var 2) (var 1)) (cst (.int 0))))) (ret (cst .non)) skip)
  (seq (asg (gnm 5) (cst (.int 0)))
  (seq (asg (gnm 6) (lstE argN))
  (seq (for_ (irng1 (var 1)) (gnm 3) (seq (asg (gnm 4) (bin oidx (var 2) (bin osub (bin osub (var 1) (var 3)) (cst (.int 1)))))
  (seq (asg (gnm 7) (lcE (iseq (bin oidx (var 0) (var 5))) [8] (gnm 8) (tst (bin oidx (var 4) (bin oidx (var 8) (cst (.int 1))))) (var 8)))
  (seq (app 6 (bin oidx (bin oidx (var 7) (cst (.int 0))) (cst (.int 0))))
  (asg (gnm 5) (bin oidx (bin oidx (var 7) (cst (.int 0))) (cst (.int 1))))))))
  (ret (var 6))))))))
def m_law_first : List D → Res D := fn 2 9 b__law_first
def b__law_whole : SM :=
  (ret (andE (un (oisi CS [.int]) (var 0)) (un onb (un (oisi CS [.bl]) (var 0)))))
def m_law_whole : List D → Res D := fn 1 1 b__law_whole
def b__law_is_reading : SM :=
  (seq (ite (tst (un oisN (var 1))) (ret (un oisN (var 0))) skip)
  (seq (ite (orT (notT (tst (un (oisi CS [.tup]) (var 0)))) (tst (bin Py.one (un blen (var 0)) (un blen (var 1))))) (ret (cst (.bl false))) skip)
  (seq (for_ (irng1 (un blen (var 1))) (gnm 2) (ite (orT (notT (tst (call m_law_whole (argC (bin oidx (var 0) (var 2)) argN)))) (tst (bin Py.one (bin oidx (var 0) (var 2)) (bin oidx (var 1) (var 2))))) (ret (cst (.bl false))) skip))
  (ret (cst (.bl true))))))
def m_law_is_reading : List D → Res D := fn 2 3 b__law_is_reading
def b__law_stays : SM :=
  (ret (andE (bin oeq (un (oattr ["Row"] "inputs") (var 0)) (var 1)) (andE (bin oeq (un (oattr ["Row"] "deeds") (var 0)) (un btuple (var 2))) (bin oeq (un (oattr ["Row"] "out") (var 0)) (var 3)))))
def m_law_stays : List D → Res D := fn 4 4 b__law_stays
def b__law_zeros : SM :=
  (seq (asg (gnm 2) (lcE (iseq (var 0)) [8] (gnm 8) yes (cst (.int 0))))
  (seq (setL 2 (cst (.int 0)) (cst (.int 1)))
  (seq (for_ (irng1 (var 1)) (gnm 3) (seq (asg (gnm 4) (lcE (iseq (var 0)) [8] (gnm 8) yes (cst (.int 0))))
  (seq (for_ (irng1 (un blen (var 0))) (gnm 5) (ite (tst (bin ogt (bin oidx (var 2) (var 5)) (cst (.int 0)))) (for_ (iseq (bin oidx (var 0) (var 5))) (gtup [(gnm 6), (gnm 7)]) (setL 4 (var 7) (bin oadd (bin oidx (var 4) (var 7)) (bin oidx (var 2) (var 5))))) skip))
  (asg (gnm 2) (var 4)))))
  (ret (un bsum (var 2))))))
def m_law_zeros : List D → Res D := fn 2 9 b__law_zeros
def b_is_number : SM :=
  (ret (andE (call m_is_integer (argC (var 0) argN)) (bin oge (var 0) (cst (.int 0)))))
def m_is_number : List D → Res D := fn 1 1 b_is_number
def b_mark_column : SM :=
  (seq (ite (tst (un (oisi CS [.int]) (var 0))) (ret (lcE (irng1 (var 1)) [2] (gnm 2) yes (bin oand (bin oshr (var 0) (var 2)) (cst (.int 1))))) skip)
  (ret (lcE (irng1 (var 1)) [2] (gnm 2) yes (un bsum (lcE (irng2 (cst (.int 1)) (un blen (var 0))) [3] (gnm 3) yes (bin omul (var 3) (bin oand (bin oshr (bin oidx (var 0) (var 3)) (var 2)) (cst (.int 1)))))))))
def m_mark_column : List D → Res D := fn 2 4 b_mark_column
def b_mark_deeds : SM :=
  (ret (lcE (iseq (un (oattr ["Row"] "deeds") (var 0))) [1] (gnm 1) (tst (bin oin (bin oidx (var 1) (cst (.int 0))) (cst (.tup tup_MARKED)))) (var 1)))
def m_mark_deeds : List D → Res D := fn 1 2 b_mark_deeds
def b_spread_mark : SM :=
  (seq (asg (gnm 5) (cst (.int 0)))
  (seq (for_ (ienum (var 0)) (gtup [(gnm 6), (gnm 7)]) (ite (tst (bin oeq (bin oidx (var 7) (var 1)) (var 2))) (aug 5 oior (bin oshl (var 3) (bin omul (var 6) (var 4)))) skip))
  (ret (var 5))))
def m_spread_mark : List D → Res D := fn 5 8 b_spread_mark
def b_held_lanes : SM :=
  (seq (asg (gnm 4) (lstE argN))
  (seq (for_ (ienum (call m_mark_deeds (argC (var 0) argN))) (gtup [(gnm 5), (gnm 6)]) (ite (tst (bin oeq (bin oidx (var 6) (cst (.int 0))) (cst (.str "count")))) (app 4 (lcE (irng1 (bin oidx (var 6) (cst (.int 1)))) [7] (gnm 7) yes (call m_spread_mark (argC (var 1) (argC (var 5) (argC (var 7) (argC (var 2) (argC (var 3) argN)))))))) (app 4 (call m_spread_mark (argC (var 1) (argC (var 5) (argC (cst (.int 1)) (argC (var 2) (argC (var 3) argN)))))))))
  (ret (var 4))))
def m_held_lanes : List D → Res D := fn 4 8 b_held_lanes
def b_carry_step : SM :=
  (seq (ite (tst (bin oeq (var 0) (cst (.str "shift")))) (ret (tupE (argC (var 3) (argC (var 1) argN)))) skip)
  (seq (ite (tst (bin oeq (var 0) (cst (.str "minus")))) (ret (tupE (argC (bin oxor (var 1) (var 3)) (argC (bin oor (var 1) (var 3)) argN)))) skip)
  (seq (ite (tst (bin oeq (var 0) (cst (.str "add")))) (ret (tupE (argC (bin oxor (bin oxor (var 1) (var 2)) (var 3)) (argC (bin oor (bin oand (var 1) (var 2)) (bin oand (bin oor (var 1) (var 2)) (var 3))) argN)))) skip)
  (ret (tupE (argC (bin oxor (bin oxor (var 1) (var 2)) (var 3)) (argC (bin oor (bin oand (bin oor (var 2) (var 3)) (un oinv (var 1))) (bin oand (var 2) (var 3))) argN)))))))
def m_carry_step : List D → Res D := fn 4 4 b_carry_step
def b_turned_counts : SM :=
  (seq (asg (gnm 2) (var 0))
  (seq (for_ (iseq (var 1)) (gnm 3) (asg (gnm 2) (lcE (irng1 (un blen (var 2))) [4] (gnm 4) yes (bin oor (bin oand (bin oidx (var 2) (var 4)) (un oinv (var 3))) (bin oand (bin oidx (var 2) (bin osub (var 4) (cst (.int 1)))) (var 3))))))
  (ret (var 2))))
def m_turned_counts : List D → Res D := fn 2 5 b_turned_counts
def b_run_deeds : SM :=
  (seq (asg (gnm 4) (un blist (var 1)))
  (seq (asg (gnm 5) (lstE argN))
  (seq (for_ (iseq (un (oattr ["Row"] "deeds") (var 0))) (gnm 6) (seq (asg (gnm 7) (bin oidx (var 6) (cst (.int 0))))
  (seq (ite (tst (bin oeq (var 7) (cst (.str "and")))) (asg (gnm 8) (bin oand (bin oidx (var 4) (bin oidx (var 6) (cst (.int 1)))) (bin oidx (var 4) (bin oidx (var 6) (cst (.int 2)))))) (ite (tst (bin oeq (var 7) (cst (.str "or")))) (asg (gnm 8) (bin oor (bin oidx (var 4) (bin oidx (var 6) (cst (.int 1)))) (bin oidx (var 4) (bin oidx (var 6) (cst (.int 2)))))) (ite (tst (bin oeq (var 7) (cst (.str "xor")))) (asg (gnm 8) (bin oxor (bin oidx (var 4) (bin oidx (var 6) (cst (.int 1)))) (bin oidx (var 4) (bin oidx (var 6) (cst (.int 2)))))) (ite (tst (bin oeq (var 7) (cst (.str "not")))) (asg (gnm 8) (bin oxor (var 3) (bin oidx (var 4) (bin oidx (var 6) (cst (.int 1)))))) (ite (tst (bin oeq (var 7) (cst (.str "zero")))) (asg (gnm 8) (cst (.int 0))) (ite (tst (bin oeq (var 7) (cst (.str "ones")))) (asg (gnm 8) (var 3)) (ite (tst (bin oeq (var 7) (cst (.str "count")))) (seq (asg (gnm 9) (bin oidx (var 2) (un blen (var 5))))
  (seq (asg (gnm 8) (bin oidx (var 9) (bin oidx (var 6) (cst (.int 2)))))
  (app 5 (call m_turned_counts (argC (var 9) (argC (lcE (iseq (bin oidx (var 6) (cst (.int 3)))) [11] (gnm 11) yes (bin oidx (var 4) (var 11))) argN)))))) (seq (asg (gtup [(gnm 8), (gnm 10)]) (call m_carry_step (argC (var 7) (argC (bin oidx (var 4) (bin oidx (var 6) (cst (.int 1)))) (argC (bin oidx (var 4) (bin oidx (var 6) (un oneg (cst (.int 1))))) (argC (bin oidx (var 2) (un blen (var 5))) argN))))))
  (app 5 (var 10))))))))))
  (app 4 (var 8)))))
  (ret (tupE (argC (var 4) (argC (var 5) argN)))))))
def m_run_deeds : List D → Res D := fn 4 12 b_run_deeds
def b_wide_lanes : SM :=
  (seq (asg (gnm 2) (bin oshl (cst (.int 1)) (un (oattr ["Row"] "inputs") (var 0))))
  (seq (asg (gnm 3) (bin osub (bin oshl (cst (.int 1)) (var 2)) (cst (.int 1))))
  (seq (asg (gnm 4) (bin osub (bin oshl (cst (.int 1)) (bin omul (var 2) (un blen (var 1)))) (cst (.int 1))))
  (seq (asg (gnm 5) (lstE argN))
  (seq (for_ (irng1 (un (oattr ["Row"] "inputs") (var 0))) (gnm 6) (app 5 (bin omul (un bsum (lcE (irng1 (var 2)) [7] (gnm 7) (tst (bin oand (bin oshr (var 7) (var 6)) (cst (.int 1)))) (bin oshl (cst (.int 1)) (var 7)))) (bin ofdiv (var 4) (var 3)))))
  (ret (call m_run_deeds (argC (var 0) (argC (var 5) (argC (call m_held_lanes (argC (var 0) (argC (var 1) (argC (var 3) (argC (var 2) argN))))) (argC (var 4) argN)))))))))))
def m_wide_lanes : List D → Res D := fn 2 8 b_wide_lanes
def b_many_lanes : SM :=
  (seq (asg (gtup [(gnm 2), (gnm 3)]) (call m_wide_lanes (argC (var 0) (argC (var 1) argN))))
  (seq (asg (gnm 4) (bin omul (bin oshl (cst (.int 1)) (un (oattr ["Row"] "inputs") (var 0))) (un blen (var 1))))
  (seq (ite (notT (tst (var 3))) (ret (tupE (argC (var 2) (argC (bin olrep (lstE (argC (tupE argN) argN)) (var 4)) argN)))) skip)
  (seq (asg (gnm 5) (lcE (iseq (var 3)) [6] (gnm 6) yes (call m_mark_column (argC (var 6) (argC (var 4) argN)))))
  (ret (tupE (argC (var 2) (argC (lzipE (var 5)) argN))))))))
def m_many_lanes : List D → Res D := fn 2 7 b_many_lanes
def b_all_lanes : SM :=
  (ret (call m_many_lanes (argC (var 0) (argC (lstE (argC (var 1) argN)) argN))))
def m_all_lanes : List D → Res D := fn 2 2 b_all_lanes
def b_first_marks : SM :=
  (ret (un btuple (lcE (iseq (call m_mark_deeds (argC (var 0) argN))) [1] (gnm 1) yes (cst (.int 0)))))
def m_first_marks : List D → Res D := fn 1 2 b_first_marks
def b_zero_steps : SM :=
  (seq (asg (gnm 1) (call m_first_marks (argC (var 0) argN)))
  (seq (asg (gnm 2) (dic1 true (var 1) (cst (.int 0))))
  (seq (asg (gnm 3) (lstE (argC (var 1) argN)))
  (seq (asg (gnm 4) (lstE argN))
  (seq (while_ (tst (bin olt (un blen (var 4)) (un blen (var 3)))) (seq (asg (gtup [(gnm 5), (gnm 6)]) (call m_all_lanes (argC (var 0) (argC (bin oidx (var 3) (un blen (var 4))) argN))))
  (seq (asg (gnm 7) (lstE argN))
  (seq (for_ (ienum (var 6)) (gtup [(gnm 8), (gnm 9)]) (seq (ite (tst (bin oand (bin oshr (bin oidx (var 5) (un (oattr ["Row"] "out") (var 0))) (var 8)) (cst (.int 1)))) cnt skip)
  (seq (ite (tst (bin onotin (var 9) (var 2))) (seq (setL 2 (var 9) (un blen (var 3)))
  (app 3 (var 9))) skip)
  (app 7 (tupE (argC (var 8) (argC (bin oidx (var 2) (var 9)) argN)))))))
  (app 4 (var 7))))))
  (ret (var 4)))))))
def m_zero_steps : List D → Res D := fn 1 10 b_zero_steps
def b_count_zeros : SM :=
  (seq (ite (notT (tst (call m_is_number (argC (var 1) argN)))) (rais "InvalidNumber" ["value"] (argC (var 1) argN)) skip)
  (seq (asg (gnm 2) (lcE (iseq (call m_zero_steps (argC (var 0) argN))) [5] (gnm 5) yes (lcE (iseq (var 5)) [4, 6] (gtup [(gnm 4), (gnm 6)]) yes (var 6))))
  (seq (asg (gnm 3) (lcE (iseq (var 2)) [4] (gnm 4) yes (cst (.int 1))))
  (seq (for_ (irng1 (var 1)) (gnm 4) (asg (gnm 3) (lcE (iseq (var 2)) [5] (gnm 5) yes (un bsum (lcE (iseq (var 5)) [6] (gnm 6) yes (bin oidx (var 3) (var 6)))))))
  (ret (bin oidx (var 3) (cst (.int 0))))))))
def m_count_zeros : List D → Res D := fn 2 7 b_count_zeros
def b_first_zero : SM :=
  (seq (ite (notT (tst (call m_is_number (argC (var 1) argN)))) (rais "InvalidNumber" ["value"] (argC (var 1) argN)) skip)
  (seq (asg (gnm 2) (call m_zero_steps (argC (var 0) argN)))
  (seq (asg (gnm 3) (lstE (argC (lcE (iseq (var 2)) [4] (gnm 4) yes (cst (.bl true))) argN)))
  (seq (for_ (irng1 (var 1)) (gnm 4) (seq (asg (gnm 5) (bin oidx (var 3) (un oneg (cst (.int 1)))))
  (app 3 (lcE (iseq (var 2)) [12] (gnm 12) yes (un bany (lcE (iseq (var 12)) [4, 13] (gtup [(gnm 4), (gnm 13)]) yes (bin oidx (var 5) (var 13))))))))
  (seq (ite (notT (tst (bin oidx (bin oidx (var 3) (var 1)) (cst (.int 0))))) (ret (cst .non)) skip)
  (seq (asg (gnm 6) (cst (.int 0)))
  (seq (asg (gnm 7) (lstE argN))
  (seq (for_ (irng3 (bin osub (var 1) (cst (.int 1))) (un oneg (cst (.int 1))) (un oneg (cst (.int 1)))) (gnm 8) (seq (asg (gnm 9) (lcE (iseq (bin oidx (var 2) (var 6))) [11] (gnm 11) (tst (bin oidx (bin oidx (var 3) (var 8)) (bin oidx (var 11) (cst (.int 1))))) (var 11)))
  (seq (asg (gtup [(gnm 10), (gnm 6)]) (bin oidx (var 9) (cst (.int 0))))
  (app 7 (var 10)))))
  (ret (un btuple (var 7)))))))))))
def m_first_zero : List D → Res D := fn 2 14 b_first_zero
def b__law_asked : SM :=
  (seq (asg (gnm 4) (call m_law_zeros (argC (var 2) (argC (var 3) argN))))
  (seq (asg (gnm 5) (call m_law_first (argC (var 2) (argC (var 3) argN))))
  (seq (for_ (irng1 (cst (.int 2))) (gnm 6) (seq (asg (gnm 7) (call m_count_zeros (argC (var 0) (argC (var 3) argN))))
  (seq (ite (orT (notT (tst (call m_law_whole (argC (var 7) argN)))) (orT (tst (bin Py.one (var 7) (var 4))) (notT (tst (call m_law_stays (argC (var 0) (argC (bin oidx (var 1) (cst (.int 0))) (argC (bin oidx (var 1) (cst (.int 1))) (argC (bin oidx (var 1) (cst (.int 2))) argN))))))))) (ret (cst (.bl false))) skip)
  (ite (orT (notT (tst (call m_law_is_reading (argC (call m_first_zero (argC (var 0) (argC (var 3) argN))) (argC (var 5) argN))))) (notT (tst (call m_law_stays (argC (var 0) (argC (bin oidx (var 1) (cst (.int 0))) (argC (bin oidx (var 1) (cst (.int 1))) (argC (bin oidx (var 1) (cst (.int 2))) argN)))))))) (ret (cst (.bl false))) skip))))
  (ret (cst (.bl true))))))
def m_law_asked : List D → Res D := fn 4 8 b__law_asked
def b__law_pick : SM :=
  (seq (ite (tst (bin ogt (bin oidx (var 0) (cst (.int 2))) (cst (.int 1)))) (seq (asg (gnm 2) (bin omod (un bint (bin oidx (var 0) (cst (.int 2)))) (var 1)))
  (seq (setL 0 (cst (.int 2)) (bin ofdiv (bin oidx (var 0) (cst (.int 2))) (var 1)))
  (retB (var 2)))) skip)
  (seq (asg (gnm 3) (cst (.int 0)))
  (seq (ite (tst (bin olt (bin oidx (var 0) (cst (.int 1))) (un blenC (bin oidx (var 0) (cst (.int 0)))))) (seq (asg (gnm 3) (bin oidxC (bin oidx (var 0) (cst (.int 0))) (bin oidx (var 0) (cst (.int 1)))))
  (setL 0 (cst (.int 1)) (bin oadd (bin oidx (var 0) (cst (.int 1))) (cst (.int 1))))) skip)
  (seq (ite (tst (bin ogt (var 3) (bin oadd (bin opow (cst (.int 10)) (cst (.int 18))) (cst (.int 1))))) (seq (asg (gnm 3) (bin osub (var 3) (bin opow (cst (.int 10)) (cst (.int 18)))))
  (seq (setL 0 (cst (.int 2)) (bin ofdiv (var 3) (var 1)))
  (retB (bin omod (un bint (var 3)) (var 1))))) skip)
  (seq (setL 0 (cst (.int 3)) (bin omod (un bint (bin oadd (bin oadd (bin omul (bin oidx (var 0) (cst (.int 3))) (cst (.int 48271))) (bin omul (var 3) (cst (.int 69621)))) (cst (.int 11)))) (cst (.int 2147483647))))
  (retB (bin omod (bin ofdiv (bin omod (un bint (bin oadd (bin omul (bin oidx (var 0) (cst (.int 3))) (bin oidx (var 0) (cst (.int 3)))) (bin omul (bin oidx (var 0) (cst (.int 3))) (cst (.int 7919))))) (cst (.int 998244353))) (cst (.int 7))) (var 1))))))))
abbrev m_law_pick : List D → Res D := pickF false
def b__law_deed : SM :=
  (seq (asg (gnm 2) (tupE (argC (cst (.str "and")) (argC (cst (.str "add")) (argC (cst (.str "sub")) (argC (cst (.str "minus")) (argC (cst (.str "shift")) (argC (cst (.str "count")) (argC (cst (.str "and")) (argC (cst (.str "or")) (argC (cst (.str "xor")) (argC (cst (.str "not")) (argC (cst (.str "zero")) (argC (cst (.str "ones")) argN))))))))))))))
  (seq (asg (gnm 3) (bin oidx (var 2) (call m_law_pick (argC (var 0) (argC (cst (.int 12)) argN)))))
  (seq (ite (tst (bin oin (var 3) (tupE (argC (cst (.str "zero")) (argC (cst (.str "ones")) argN))))) (ret (tupE (argC (var 3) argN))) skip)
  (seq (asg (gnm 4) (call m_law_pick (argC (var 0) (argC (var 1) argN))))
  (seq (ite (tst (bin oeq (call m_law_pick (argC (var 0) (argC (cst (.int 3)) argN))) (cst (.int 0)))) (asg (gnm 4) (bin osub (var 1) (cst (.int 1)))) skip)
  (seq (ite (tst (bin oin (var 3) (tupE (argC (cst (.str "not")) (argC (cst (.str "shift")) (argC (cst (.str "minus")) argN)))))) (ret (tupE (argC (var 3) (argC (var 4) argN)))) skip)
  (seq (ite (tst (bin oeq (var 3) (cst (.str "count")))) (seq (asg (gnm 5) (bin oidx (tupE (argC (cst (.int 2)) (argC (cst (.int 3)) (argC (cst (.int 5)) argN)))) (call m_law_pick (argC (var 0) (argC (cst (.int 3)) argN)))))
  (seq (asg (gnm 6) (call m_law_pick (argC (var 0) (argC (var 5) argN))))
  (seq (asg (gnm 7) (lstE (argC (var 4) argN)))
  (seq (for_ (irng1 (call m_law_pick (argC (var 0) (argC (cst (.int 4)) argN)))) (gnm 8) (app 7 (call m_law_pick (argC (var 0) (argC (var 1) argN)))))
  (ret (tupE (argC (var 3) (argC (var 5) (argC (var 6) (argC (un btuple (var 7)) argN)))))))))) skip)
  (ret (tupE (argC (var 3) (argC (var 4) (argC (call m_law_pick (argC (var 0) (argC (var 1) argN))) argN))))))))))))
def m_law_deed : List D → Res D := fn 2 9 b__law_deed
def b__law_weight : SM :=
  (seq (ite (tst (bin oeq (bin oidx (var 0) (cst (.int 0))) (cst (.str "count")))) (ret (bin oidx (var 0) (cst (.int 1)))) skip)
  (seq (ite (tst (bin oin (bin oidx (var 0) (cst (.int 0))) (tupE (argC (cst (.str "shift")) (argC (cst (.str "minus")) (argC (cst (.str "add")) (argC (cst (.str "sub")) argN))))))) (ret (cst (.int 2))) skip)
  (ret (cst (.int 1)))))
def m_law_weight : List D → Res D := fn 1 1 b__law_weight
def b__law_deeds : SM :=
  (seq (asg (gnm 4) (lstE argN))
  (seq (for_ (irng1 (var 2)) (gnm 5) (seq (asg (gnm 6) (call m_law_deed (argC (var 0) (argC (bin oadd (var 1) (var 5)) argN))))
  (seq (ite (tst (bin ogt (call m_law_weight (argC (var 6) argN)) (var 3))) (asg (gnm 6) (tupE (argC (bin oidx (tupE (argC (cst (.str "and")) (argC (cst (.str "xor")) argN))) (call m_law_pick (argC (var 0) (argC (cst (.int 2)) argN)))) (argC (call m_law_pick (argC (var 0) (argC (bin oadd (var 1) (var 5)) argN))) (argC (bin osub (bin oadd (var 1) (var 5)) (cst (.int 1))) argN))))) skip)
  (seq (asg (gnm 3) (bin ofdiv (var 3) (call m_law_weight (argC (var 6) argN))))
  (app 4 (var 6))))))
  (ret (var 4))))
def m_law_deeds : List D → Res D := fn 4 7 b__law_deeds
def b__law_mark : SM :=
  (seq (ite (tst (bin oeq (var 0) (cst (.str "shift")))) (ret (tupE (argC (var 1) (argC (var 2) argN)))) skip)
  (seq (asg (gnm 4) (bin oadd (bin oadd (var 2) (var 3)) (var 1)))
  (seq (ite (tst (bin oeq (var 0) (cst (.str "minus")))) (ret (tupE (argC (bin oand (var 4) (cst (.int 1))) (argC (un bint (bin oge (var 4) (cst (.int 1)))) argN)))) skip)
  (seq (ite (tst (bin oeq (var 0) (cst (.str "add")))) (ret (tupE (argC (bin oand (var 4) (cst (.int 1))) (argC (un bint (bin oge (var 4) (cst (.int 2)))) argN)))) skip)
  (ret (tupE (argC (bin oand (var 4) (cst (.int 1))) (argC (un bint (bin olt (var 2) (bin oadd (var 3) (var 1)))) argN))))))))
def m_law_mark : List D → Res D := fn 4 5 b__law_mark
def b__law_step : SM :=
  (seq (asg (gnm 4) (lcE (irng1 (var 0)) [11] (gnm 11) yes (bin oand (bin oshr (var 3) (var 11)) (cst (.int 1)))))
  (seq (asg (gnm 5) (lstE argN))
  (seq (for_ (iseq (var 1)) (gnm 6) (seq (asg (gnm 7) (bin oidx (var 6) (cst (.int 0))))
  (ite (tst (bin oeq (var 7) (cst (.str "not")))) (app 4 (bin osub (cst (.int 1)) (bin oidx (var 4) (bin oidx (var 6) (cst (.int 1)))))) (ite (tst (bin oeq (var 7) (cst (.str "and")))) (app 4 (bin oand (bin oidx (var 4) (bin oidx (var 6) (cst (.int 1)))) (bin oidx (var 4) (bin oidx (var 6) (cst (.int 2)))))) (ite (tst (bin oeq (var 7) (cst (.str "or")))) (app 4 (bin oor (bin oidx (var 4) (bin oidx (var 6) (cst (.int 1)))) (bin oidx (var 4) (bin oidx (var 6) (cst (.int 2)))))) (ite (tst (bin oeq (var 7) (cst (.str "xor")))) (app 4 (bin oxor (bin oidx (var 4) (bin oidx (var 6) (cst (.int 1)))) (bin oidx (var 4) (bin oidx (var 6) (cst (.int 2)))))) (ite (tst (bin oin (var 7) (tupE (argC (cst (.str "zero")) (argC (cst (.str "ones")) argN))))) (app 4 (un bint (bin oeq (var 7) (cst (.str "ones"))))) (ite (tst (bin oeq (var 7) (cst (.str "count")))) (seq (asg (gnm 8) (bin oidx (var 2) (un blen (var 5))))
  (seq (app 4 (un bint (bin oeq (var 8) (bin oidx (var 6) (cst (.int 2))))))
  (app 5 (bin omod (un bint (bin oadd (var 8) (un bsum (lcE (iseq (bin oidx (var 6) (cst (.int 3)))) [12] (gnm 12) yes (bin oidx (var 4) (var 12)))))) (bin oidx (var 6) (cst (.int 1))))))) (seq (asg (gnm 9) (cst (.int 0)))
  (seq (ite (tst (bin ogt (un blen (var 6)) (cst (.int 2)))) (asg (gnm 9) (bin oidx (var 4) (bin oidx (var 6) (cst (.int 2))))) skip)
  (seq (asg (gtup [(gnm 10), (gnm 8)]) (call m_law_mark (argC (var 7) (argC (bin oidx (var 2) (un blen (var 5))) (argC (bin oidx (var 4) (bin oidx (var 6) (cst (.int 1)))) (argC (var 9) argN))))))
  (seq (app 4 (var 10))
  (app 5 (var 8))))))))))))))
  (ret (tupE (argC (var 4) (argC (un btuple (var 5)) argN)))))))
def m_law_step : List D → Res D := fn 4 13 b__law_step
def b__law_leads : SM :=
  (seq (asg (gnm 4) (lstE (argC (un btuple (lcE (iseq (var 1)) [12] (gnm 12) (tst (bin ogt (call m_law_weight (argC (var 12) argN)) (cst (.int 1)))) (cst (.int 0)))) argN)))
  (seq (asg (gnm 5) (dic1 true (bin oidx (var 4) (cst (.int 0))) (cst (.int 0))))
  (seq (asg (gnm 6) (lstE argN))
  (seq (for_ (irng1 (var 3)) (gnm 7) (ite (tst (bin olt (var 7) (un blen (var 4)))) (seq (asg (gnm 8) (lstE argN))
  (seq (for_ (irng1 (bin oshl (cst (.int 1)) (var 0))) (gnm 9) (seq (asg (gtup [(gnm 10), (gnm 11)]) (call m_law_step (argC (var 0) (argC (var 1) (argC (bin oidx (var 4) (var 7)) (argC (var 9) argN))))))
  (seq (ite (tst (bin onotin (var 11) (var 5))) (seq (setL 5 (var 11) (un blen (var 4)))
  (app 4 (var 11))) skip)
  (ite (tst (bin oeq (bin oidx (var 10) (var 2)) (cst (.int 0)))) (app 8 (tupE (argC (var 9) (argC (bin oidx (var 5) (var 11)) argN)))) skip))))
  (app 6 (var 8)))) skip))
  (ret (var 6))))))
def m_law_leads : List D → Res D := fn 4 13 b__law_leads
def b__law_plain : SM :=
  (seq (asg (gnm 4) (cst (.int 0)))
  (seq (asg (gnm 5) (un btuple (lcE (iseq (var 1)) [12] (gnm 12) (tst (bin ogt (call m_law_weight (argC (var 12) argN)) (cst (.int 1)))) (cst (.int 0)))))
  (seq (for_ (irng1 (bin oshl (cst (.int 1)) (bin omul (var 0) (var 3)))) (gnm 6) (seq (asg (gnm 7) (var 5))
  (seq (asg (gnm 8) (cst (.bl true)))
  (seq (for_ (irng1 (var 3)) (gnm 9) (seq (asg (gnm 10) (bin oand (bin oshr (var 6) (bin omul (var 0) (var 9))) (bin osub (bin oshl (cst (.int 1)) (var 0)) (cst (.int 1)))))
  (seq (asg (gtup [(gnm 11), (gnm 7)]) (call m_law_step (argC (var 0) (argC (var 1) (argC (var 7) (argC (var 10) argN))))))
  (asg (gnm 8) (andE (var 8) (bin oeq (bin oidx (var 11) (var 2)) (cst (.int 0))))))))
  (asg (gnm 4) (bin oadd (var 4) (un bint (var 8))))))))
  (ret (var 4)))))
def m_law_plain : List D → Res D := fn 4 13 b__law_plain
def b__law_refused : SM :=
  (seq (tryX "InvalidNumber" ES 3 (ite (tst (bin oeq (var 0) (cst (.int 0)))) (Py.drop (call m_count_zeros (argC (var 1) (argC (var 2) argN)))) (Py.drop (call m_first_zero (argC (var 1) (argC (var 2) argN))))) fun c_e fs_e => (seq (ite (orT (notT (tst (xis ES EALL c_e ["CarryError"]))) (tst (bin Py.one (un (oisi CS [.bl]) (var 2)) (un (oisi CS [.bl]) (xfld ES EFL c_e "value" fs_e))))) (ret (cst (.bl false))) skip)
  (seq (ite (tst (un oisN (var 2))) (ret (un oisN (xfld ES EFL c_e "value" fs_e))) skip)
  (ret (andE (bin oeq (un (oisi CS [.str]) (var 2)) (un (oisi CS [.str]) (xfld ES EFL c_e "value" fs_e))) (bin oeq (xfld ES EFL c_e "value" fs_e) (var 2)))))))
  (ret (cst (.bl false))))
def m_law_refused : List D → Res D := fn 3 4 b__law_refused
def b__law_ask : SM :=
  (seq (asg (gnm 1) (bin oidx (tupE (argC (cst (.int 1)) (argC (cst (.int 1)) (argC (cst (.int 2)) (argC (cst (.int 3)) argN))))) (call m_law_pick (argC (var 0) (argC (cst (.int 4)) argN)))))
  (seq (asg (gnm 2) (bin ofdiv (cst (.int 32)) (var 1)))
  (seq (ite (tst (bin oeq (call m_law_pick (argC (var 0) (argC (cst (.int 40)) argN))) (cst (.int 0)))) (seq (asg (gnm 1) (cst (.int 1)))
  (asg (gnm 2) (cst (.int 1000)))) skip)
  (seq (asg (gnm 3) (call m_law_pick (argC (var 0) (argC (cst (.int 11)) argN))))
  (seq (ite (tst (bin oeq (var 2) (cst (.int 1000)))) (asg (gnm 3) (cst (.int 10))) skip)
  (seq (asg (gnm 4) (call m_law_deeds (argC (var 0) (argC (var 1) (argC (var 3) (argC (var 2) argN))))))
  (seq (asg (gnm 5) (bin osub (bin oadd (var 1) (un blen (var 4))) (cst (.int 1))))
  (seq (asg (gnm 6) (call m_law_pick (argC (var 0) (argC (cst (.int 4)) argN))))
  (seq (ite (tst (bin olt (var 6) (cst (.int 2)))) (asg (gnm 5) (call m_law_pick (argC (var 0) (argC (bin oadd (var 1) (un blen (var 4))) argN)))) (ite (andT (tst (bin oeq (var 6) (cst (.int 2)))) (tst (bin ogt (un blen (var 4)) (cst (.int 0))))) (asg (gnm 5) (bin osub (bin osub (bin oadd (var 1) (un blen (var 4))) (cst (.int 1))) (bin bmin2 (un blen (var 4)) (bin oadd (cst (.int 1)) (call m_law_pick (argC (var 0) (argC (cst (.int 3)) argN))))))) skip))
  (seq (asg (gnm 7) (tupE (argC (var 1) (argC (var 4) (argC (var 5) argN)))))
  (seq (asg (gnm 8) (call m_Row (argC (var 1) (argC (un blist (var 4)) (argC (var 5) argN)))))
  (seq (asg (gnm 9) (call m_law_leads (argC (var 1) (argC (var 4) (argC (var 5) (argC (var 2) argN))))))
  (seq (asg (gnm 10) (call m_law_pick (argC (var 0) (argC (cst (.int 7)) argN))))
  (seq (ite (orT (notT (tst (call m_law_asked (argC (var 8) (argC (var 7) (argC (var 9) (argC (var 10) argN))))))) (notT (tst (call m_law_asked (argC (var 8) (argC (var 7) (argC (var 9) (argC (call m_law_pick (argC (var 0) (argC (cst (.int 65)) argN))) argN)))))))) (ret (cst (.bl false))) skip)
  (seq (ite (andT (tst (bin ole (bin omul (var 1) (var 10)) (cst (.int 8)))) (tst (bin oeq (call m_law_pick (argC (var 0) (argC (cst (.int 8)) argN))) (cst (.int 0))))) (ite (tst (bin Py.one (call m_count_zeros (argC (var 8) (argC (var 10) argN))) (call m_law_plain (argC (var 1) (argC (var 4) (argC (var 5) (argC (var 10) argN))))))) (ret (cst (.bl false))) skip) skip)
  (seq (ite (tst (bin oeq (call m_law_pick (argC (var 0) (argC (cst (.int 3)) argN))) (cst (.int 0)))) (seq (asg (gnm 11) (bin oidx (lstE (argC (cst (.bl true)) (argC (cst (.bl false)) (argC (bin osub (un oneg (cst (.int 1))) (call m_law_pick (argC (var 0) (argC (cst (.int 70)) argN)))) (argC (cst .non) (argC (cst (.str "3")) (argC (tupE (argC (cst (.int 2)) argN)) argN))))))) (call m_law_pick (argC (var 0) (argC (cst (.int 6)) argN)))))
  (ite (orT (notT (tst (call m_law_refused (argC (cst (.int 0)) (argC (var 8) (argC (var 11) argN)))))) (orT (notT (tst (call m_law_refused (argC (cst (.int 1)) (argC (var 8) (argC (var 11) argN)))))) (notT (tst (call m_law_asked (argC (var 8) (argC (var 7) (argC (var 9) (argC (var 10) argN))))))))) (ret (cst (.bl false))) skip)) skip)
  (ret (call m_law_stays (argC (var 8) (argC (var 1) (argC (var 4) (argC (var 5) argN))))))))))))))))))))))
def m_law_ask : List D → Res D := fn 1 12 b__law_ask
def b_law : SM :=
  (seq (asg (gnm 1) (mkp (lstE (argC (lcE (iseq (slc (var 0) none (some (cst (.int 63))))) [2] (gnm 2) yes (un bint (var 2))) (argC (cst (.int 0)) (argC (cst (.int 0)) (argC (cst (.int 1)) argN)))))))
  (thru (ret (call m_law_ask (argC (var 1) argN)))))
def m_law : List D → Res D := fn 1 3 b_law
end Py
namespace Py
open PySem PySem.Spec PyProof.Rows L2
abbrev ow_as_tuple : Ow := owS []
abbrev ow_is_integer : Ow := owS []
abbrev ow_is_below : Ow := owS []
abbrev ow_are_values : Ow := owS []
abbrev ow_is_count_deed : Ow := owS []
abbrev ow_is_deed : Ow := owS []
abbrev ow_is_inputs : Ow := owS []
abbrev ow_Row_init : Ow := ⟨fun i => i == 0, none⟩
abbrev ow__law_first : Ow := owS []
abbrev ow__law_whole : Ow := owS []
abbrev ow__law_is_reading : Ow := owS []
abbrev ow__law_stays : Ow := owS []
abbrev ow__law_zeros : Ow := owS []
abbrev ow_is_number : Ow := owS []
abbrev ow_mark_column : Ow := owS []
abbrev ow_mark_deeds : Ow := owS []
abbrev ow_spread_mark : Ow := owS []
abbrev ow_held_lanes : Ow := owS []
abbrev ow_carry_step : Ow := owS []
abbrev ow_turned_counts : Ow := owS []
abbrev ow_run_deeds : Ow := owS []
abbrev ow_wide_lanes : Ow := owS []
abbrev ow_many_lanes : Ow := owS []
abbrev ow_all_lanes : Ow := owS []
abbrev ow_first_marks : Ow := owS []
abbrev ow_zero_steps : Ow := owS []
abbrev ow_count_zeros : Ow := owS []
abbrev ow_first_zero : Ow := owS []
abbrev ow__law_asked : Ow := owS []
abbrev ow__law_pick : Ow := ⟨fun i => i == 0, none⟩
abbrev ow__law_deed : Ow := owS []
abbrev ow__law_weight : Ow := owS []
abbrev ow__law_deeds : Ow := owS []
abbrev ow__law_mark : Ow := owS []
abbrev ow__law_step : Ow := owS []
abbrev ow__law_leads : Ow := owS []
abbrev ow__law_plain : Ow := owS []
abbrev ow__law_refused : Ow := owS []
abbrev ow__law_ask : Ow := owS []
abbrev ow_law : Ow := owS []
abbrev Fs (P : Program) (w : World) (K : Frag) (mg : Str → Option Value) : Prop := FactsY fa fns xfs tbs mss FILE P w K mg
section
variable {P : Program} {w : World} {K : Frag} {mg : Str → Option Value} {base : Heap}
theorem S_InvalidRow_init : NdefX.NScope N_InvalidRow_init ["self", "part", "place"] ["__class__"] sc_InvalidRow_init := NdefX.nscope_by (by decide +kernel)
theorem er_InvalidRow (Y : Fs P w K mg) : ErrOk P w K mg base 1 "InvalidRow" ["part", "place"] :=
  err_ok (k := 0) (self := "self") (N := N_InvalidRow_init) (ps := ["self", "part", "place"]) (Y.err 0 8 (d := d_InvalidRow_init) (c := "InvalidRow") (fs := ["part", "place"])) (Y.glo 59) (Y.free 60) Y.ps rfl S_InvalidRow_init rfl rfl rfl rfl (fun _ _ _ _ _ _ _ us hl => match us, hl with | [_, _, _], _ => rfl)
    (fun _ _ _ _ _ _ _ _ => (pss_cons (ps_ost (pv 0) (pv 1)) (pss_one (ps_ost (pv 0) (pv 2)))))
    (fun a ws H1 Dn σ h0 h1 hl hn q => fld_two (Y.err 0 8 (d := d_InvalidRow_init) (c := "InvalidRow") (fs := ["part", "place"])).T ((Y.err 0 8 (d := d_InvalidRow_init) (c := "InvalidRow") (fs := ["part", "place"])).no _ (by simp)) ((Y.err 0 8 (d := d_InvalidRow_init) (c := "InvalidRow") (fs := ["part", "place"])).no _ (by simp)) h0 h1 hl hn q) (fun _ _ _ _ => rfl) (fun _ _ _ _ => rfl) (fun _ _ _ _ => rfl) (fun _ _ _ _ => rfl)
theorem S_InvalidNumber_init : NdefX.NScope N_InvalidNumber_init ["self", "value"] ["__class__"] sc_InvalidNumber_init := NdefX.nscope_by (by decide +kernel)
theorem er_InvalidNumber (Y : Fs P w K mg) : ErrOk P w K mg base 1 "InvalidNumber" ["value"] :=
  err_ok (k := 0) (self := "self") (N := N_InvalidNumber_init) (ps := ["self", "value"]) (Y.err 1 9 (d := d_InvalidNumber_init) (c := "InvalidNumber") (fs := ["value"])) (Y.glo 17) (Y.free 60) Y.ps rfl S_InvalidNumber_init rfl rfl rfl rfl (fun _ _ _ _ _ _ _ us hl => match us, hl with | [_, _], _ => rfl)
    (fun _ _ _ _ _ _ _ _ => (pss_one (ps_ost (pv 0) (pv 1))))
    (fun a ws H1 Dn σ h0 h1 hl hn q => fld_one (Y.err 1 9 (d := d_InvalidNumber_init) (c := "InvalidNumber") (fs := ["value"])).T ((Y.err 1 9 (d := d_InvalidNumber_init) (c := "InvalidNumber") (fs := ["value"])).no _ (by simp)) h0 h1 hl hn q) (fun _ _ _ _ => rfl) (fun _ _ _ _ => rfl) (fun _ _ _ _ => rfl) (fun _ _ _ _ => rfl)
theorem S_as_tuple : FnScope N_as_tuple ["value"] sc_as_tuple := ⟨rfl, rfl, rfl, by decide +kernel, rfl, by decide +kernel, by decide +kernel⟩
theorem c_as_tuple (Y : Fs P w K mg) : CallOk P w K mg base 1 "as_tuple" d_as_tuple ["value"] 1 m_as_tuple :=
  def_ok (d := d_as_tuple) (N := N_as_tuple) (ps := ["value"]) (p := 1) (m := b_as_tuple) (k := 0) (ow := ow_as_tuple) (Y.def_ 0) (Y.glo 18) S_as_tuple rfl rfl (by decide) (fun _ _ _ _ _ _ us hl => match us, hl with | [_], _ => rfl) (fun cdv A outer s H E T => (ss_cons (s_if (t_tst (w_of (x_isiT (cs := CS) (ts := [.lst, .tup]) rfl (kit_of_b (Y.more 3)) rfl (Y.free 5) (w_of (x_var (pv 0) rfl)) (TyL.cons (t := .lst) (pe_bltn rfl (Y.free 3) hv_list rfl) (TyL.cons (t := .tup) (pe_bltn rfl (Y.free 6) hv_tuple rfl) TyL.nil rfl) rfl) (by decide))) (by intro _; rfl)) (ss_one (s_ret (x_t1 v_tuple n_tuple rfl (Y.free 6) hv_tuple (w_of (x_var (pv 0) rfl))))) ss_nil)
  (ss_one (s_ret x_non))))
theorem S_is_integer : FnScope N_is_integer ["value"] sc_is_integer := ⟨rfl, rfl, rfl, by decide +kernel, rfl, by decide +kernel, by decide +kernel⟩
theorem c_is_integer (Y : Fs P w K mg) : CallOk P w K mg base 1 "is_integer" d_is_integer ["value"] 1 m_is_integer :=
  def_ok (d := d_is_integer) (N := N_is_integer) (ps := ["value"]) (p := 1) (m := b_is_integer) (k := 0) (ow := ow_is_integer) (Y.def_ 1) (Y.glo 19) S_is_integer rfl rfl (by decide) (fun _ _ _ _ _ _ us hl => match us, hl with | [_], _ => rfl) (fun cdv A outer s H E T => (ss_one (s_ret (x_and (x_isi1 (cs := CS) (t := .int) rfl (kit_of_b (Y.more 3)) rfl (Y.free 5) (w_of (x_var (pv 0) rfl)) (pe_bltn rfl (Y.free 0) hv_int rfl)) (x_one (x_not (x_isi1 (cs := CS) (t := .bl) rfl (kit_of_b (Y.more 3)) rfl (Y.free 5) (w_of (x_var (pv 0) rfl)) (pe_bltn rfl (Y.free 7) hv_bool rfl))))))))
theorem S_is_below : FnScope N_is_below ["value", "limit"] sc_is_below := ⟨rfl, rfl, rfl, by decide +kernel, rfl, by decide +kernel, by decide +kernel⟩
theorem c_is_below (Y : Fs P w K mg) : CallOk P w K mg base 2 "is_below" d_is_below ["value", "limit"] 2 m_is_below :=
  def_ok (d := d_is_below) (N := N_is_below) (ps := ["value", "limit"]) (p := 2) (m := b_is_below) (k := 1) (ow := ow_is_below) (Y.def_ 2) (Y.glo 20) S_is_below rfl rfl (by decide) (fun _ _ _ _ _ _ us hl => match us, hl with | [_, _], _ => rfl) (fun cdv A outer s H E T => (ss_one (s_ret (x_and (x_own1 T (c_is_integer Y) (by decide) rfl (xa_cons (x_var (pv 0) rfl) xa_nil)) (x_one (x_chain y_le y_lt n_le n_lt (w_of x_int) (w_of (x_var (pv 0) rfl)) (w_of (x_var (pv 1) rfl))))))))
theorem S_are_values : FnScope N_are_values ["numbers", "many"] sc_are_values := ⟨rfl, rfl, rfl, by decide +kernel, rfl, by decide +kernel, by decide +kernel⟩
theorem c_are_values (Y : Fs P w K mg) : CallOk P w K mg base 3 "are_values" d_are_values ["numbers", "many"] 2 m_are_values :=
  def_ok (d := d_are_values) (N := N_are_values) (ps := ["numbers", "many"]) (p := 2) (m := b_are_values) (k := 2) (ow := ow_are_values) (Y.def_ 3) (Y.glo 21) S_are_values rfl rfl (by decide) (fun _ _ _ _ _ _ us hl => match us, hl with | [_, _], _ => rfl) (fun cdv A outer s H E T => (ss_one (s_ret (x_b1 (v_all T.calm) n_all rfl (Y.free 10) hv_all (w_of (e_of (f_lc (own := [("number", 2)]) T (i_gr (i_seq (x_var (pv 0) rfl))) (blkOk_by (N := N_are_values) (sc := sc_are_values) (own := [("number", 2)]) (by decide +kernel)) (fun _ _ _ _ _ T1 => (g_nm (pg_name (i := 2) T1.nd rfl (Or.inl rfl)) rfl)) (fun _ _ _ _ _ T1 => ts_nil) (fun _ _ _ _ _ T1 => (x_own1 T1 (c_is_below Y) (by decide) rfl (xa_cons (x_var (pv 2) rfl) (xa_cons (x_var (pv 1) rfl) xa_nil)))) (by decide))))))))
theorem S_is_count_deed : FnScope N_is_count_deed ["value", "many"] sc_is_count_deed := ⟨rfl, rfl, rfl, by decide +kernel, rfl, by decide +kernel, by decide +kernel⟩
theorem c_is_count_deed (Y : Fs P w K mg) : CallOk P w K mg base 4 "is_count_deed" d_is_count_deed ["value", "many"] 2 m_is_count_deed :=
  def_ok (d := d_is_count_deed) (N := N_is_count_deed) (ps := ["value", "many"]) (p := 2) (m := b_is_count_deed) (k := 3) (ow := ow_is_count_deed) (Y.def_ 4) (Y.glo 22) S_is_count_deed rfl rfl (by decide) (fun _ _ _ _ _ _ us hl => match us, hl with | [_, _], _ => rfl) (fun cdv A outer s H E T => (ss_cons (s_if (t_cmp T.ne n_ne b_ne (w_of (x_b1 v_len n_len rfl (Y.free 1) hv_len (w_of (x_var (pv 0) rfl)))) (w_of x_int) rfl) (ss_one (s_ret x_bl)) ss_nil)
  (ss_cons (s_gen (ps_asg (x_slc (w_of (x_var (pv 0) rfl)) (o_some x_int) o_none) (g_tup T.calm (gs_cons (g_nm (pg_name (i := 2) T.nd rfl (Or.inl rfl)) rfl) (gs_cons (g_nm (pg_name (i := 3) T.nd rfl (Or.inl rfl)) rfl) (gs_cons (g_nm (pg_name (i := 4) T.nd rfl (Or.inl rfl)) rfl) gs_nil))))))
  (ss_cons (s_if (PW.pt (t_or (t_not (t_tst (w_of (x_own1 T (c_is_integer Y) (by decide) rfl (xa_cons (x_var (pv 2) rfl) xa_nil))) (by intro _; rfl))) (t_or (t_cmp T.nin n_notin b_notin (w_of (x_var (pv 2) rfl)) (w_of (x_tup (xa_cons x_int (xa_cons x_int (xa_cons x_int xa_nil))))) rfl) (t_or1 (t_not (t_tst (w_of (x_own1 T (c_is_below Y) (by decide) rfl (xa_cons (x_var (pv 3) rfl) (xa_cons (x_var (pv 2) rfl) xa_nil)))) (by intro _; rfl))))))) (ss_one (s_ret x_bl)) ss_nil)
  (ss_one (s_ret (x_and (x_isi1 (cs := CS) (t := .tup) rfl (kit_of_b (Y.more 3)) rfl (Y.free 5) (w_of (x_var (pv 4) rfl)) (pe_bltn rfl (Y.free 6) hv_tuple rfl)) (x_and (x_chain y_le y_le n_le n_le (w_of x_int) (w_of (x_b1 v_len n_len rfl (Y.free 1) hv_len (w_of (x_var (pv 4) rfl)))) (w_of x_int)) (x_one (x_own1 T (c_are_values Y) (by decide) rfl (xa_cons (x_var (pv 4) rfl) (xa_cons (x_var (pv 1) rfl) xa_nil))))))))))))
theorem S_is_deed : FnScope N_is_deed ["value", "many"] sc_is_deed := ⟨rfl, rfl, rfl, by decide +kernel, rfl, by decide +kernel, by decide +kernel⟩
theorem c_is_deed (Y : Fs P w K mg) : CallOk P w K mg base 5 "is_deed" d_is_deed ["value", "many"] 2 m_is_deed :=
  def_ok (d := d_is_deed) (N := N_is_deed) (ps := ["value", "many"]) (p := 2) (m := b_is_deed) (k := 4) (ow := ow_is_deed) (Y.def_ 5) (Y.glo 23) S_is_deed rfl rfl (by decide) (fun _ _ _ _ _ _ us hl => match us, hl with | [_, _], _ => rfl) (fun cdv A outer s H E T => (ss_cons (s_if (PW.pt (t_or (t_not (t_tst (w_of (x_isi1 (cs := CS) (t := .tup) rfl (kit_of_b (Y.more 3)) rfl (Y.free 5) (w_of (x_var (pv 0) rfl)) (pe_bltn rfl (Y.free 6) hv_tuple rfl))) (by intro _; rfl))) (t_or (t_not (t_tst (w_of (x_var (pv 0) rfl)) (by intro _; rfl))) (t_or1 (t_not (t_tst (w_of (x_isi1 (cs := CS) (t := .str) rfl (kit_of_b (Y.more 3)) rfl (Y.free 5) (w_of (x_idx T.ix (w_of (x_var (pv 0) rfl)) (w_of x_int))) (pe_bltn rfl (Y.free 8) hv_str rfl))) (by intro _; rfl))))))) (ss_one (s_ret x_bl)) ss_nil)
  (ss_cons (s_if (t_cmp T.eq n_eq b_eq (w_of (x_idx T.ix (w_of (x_var (pv 0) rfl)) (w_of x_int))) (w_of (x_str (s := "count"))) rfl) (ss_one (s_ret (x_own1 T (c_is_count_deed Y) (by decide) rfl (xa_cons (x_var (pv 0) rfl) (xa_cons (x_var (pv 1) rfl) xa_nil))))) ss_nil)
  (ss_cons (s_if (PW.pt (t_or (t_nothas (Y.tab 0 4 9) rfl (x_idx T.ix (w_of (x_var (pv 0) rfl)) (w_of x_int))) (t_or1 (t_cmp T.ne n_ne b_ne (w_of (x_b1 v_len n_len rfl (Y.free 1) hv_len (w_of (x_var (pv 0) rfl)))) (w_of (x_bin y_add n_add (w_of (x_look (Y.tab 0 4 9) rfl (x_idx T.ix (w_of (x_var (pv 0) rfl)) (w_of x_int)))) (w_of x_int))) rfl)))) (ss_one (s_ret x_bl)) ss_nil)
  (ss_one (s_ret (x_own1 T (c_are_values Y) (by decide) rfl (xa_cons (x_slc (w_of (x_var (pv 0) rfl)) (o_some x_int) o_none) (xa_cons (x_var (pv 1) rfl) xa_nil)))))))))
theorem S_is_inputs : FnScope N_is_inputs ["value"] sc_is_inputs := ⟨rfl, rfl, rfl, by decide +kernel, rfl, by decide +kernel, by decide +kernel⟩
theorem c_is_inputs (Y : Fs P w K mg) : CallOk P w K mg base 2 "is_inputs" d_is_inputs ["value"] 1 m_is_inputs :=
  def_ok (d := d_is_inputs) (N := N_is_inputs) (ps := ["value"]) (p := 1) (m := b_is_inputs) (k := 1) (ow := ow_is_inputs) (Y.def_ 6) (Y.glo 24) S_is_inputs rfl rfl (by decide) (fun _ _ _ _ _ _ us hl => match us, hl with | [_], _ => rfl) (fun cdv A outer s H E T => (ss_one (s_ret (x_and (x_own1 T (c_is_integer Y) (by decide) rfl (xa_cons (x_var (pv 0) rfl) xa_nil)) (x_one (x_chain y_le y_le n_le n_le (w_of x_int) (w_of (x_var (pv 0) rfl)) (w_of x_int)))))))
theorem S_Row_init : FnScope N_Row_init ["self", "inputs", "deeds", "out"] sc_Row_init := ⟨rfl, rfl, rfl, by decide +kernel, rfl, by decide +kernel, by decide +kernel⟩
theorem c_Row (Y : Fs P w K mg) : MakeOk P w K mg base 6 "Row" 4 m_Row :=
  cls_ok (name := "__init__") (qual := "Row.__init__") (params := defArgs st_Row_init) (body := defBody st_Row_init) (scope := sc_Row_init) (f := He.ma K (ca K "Row") "__init__") (N := N_Row_init) (p := 4) (m := b_Row_init) (k := 5) (ow := ow_Row_init) (Y.def_ 7) (Y.glo 25) (Y.mkr 26 (x := "Row")) S_Row_init rfl rfl rfl (by decide) (by decide) (fun _ _ _ _ _ _ us hl => match us, hl with | [_, _, _, _], _ => rfl) (fun cdv A outer s H E T => (ss_cons (s_if (t_not (t_tst (w_of (x_own1 T (c_is_inputs Y) (by decide) rfl (xa_cons (x_var (pv 1) rfl) xa_nil))) (by intro _; rfl))) (ss_one (s_raise T (er_InvalidRow Y) (by decide) rfl (xa_cons (x_str (s := "inputs")) (xa_cons x_int xa_nil)))) ss_nil)
  (ss_cons (s_set (ps_set (i := 4) T.nd rfl (Or.inl rfl) (x_own1 T (c_as_tuple Y) (by decide) rfl (xa_cons (x_var (pv 2) rfl) xa_nil))) rfl)
  (ss_cons (s_if (t_isN (w_of (x_var (pv 4) rfl))) (ss_one (s_raise T (er_InvalidRow Y) (by decide) rfl (xa_cons (x_str (s := "deeds")) (xa_cons x_int xa_nil)))) ss_nil)
  (ss_cons (s_for T.po T.calm (i_enum rfl (Y.free 4) (x_var (pv 4) rfl)) (g_tup T.calm (gs_cons (g_nm (pg_name (i := 5) T.nd rfl (Or.inl rfl)) rfl) (gs_cons (g_nm (pg_name (i := 6) T.nd rfl (Or.inl rfl)) rfl) gs_nil))) (ss_one (s_if (t_not (t_tst (w_of (x_own1 T (c_is_deed Y) (by decide) rfl (xa_cons (x_var (pv 6) rfl) (xa_cons (x_bin y_add n_add (w_of (x_var (pv 1) rfl)) (w_of (x_var (pv 5) rfl))) xa_nil)))) (by intro _; rfl))) (ss_one (s_raise T (er_InvalidRow Y) (by decide) rfl (xa_cons (x_str (s := "deeds")) (xa_cons (x_var (pv 5) rfl) xa_nil)))) ss_nil)))
  (ss_cons (s_if (t_not (t_tst (w_of (x_own1 T (c_is_below Y) (by decide) rfl (xa_cons (x_var (pv 3) rfl) (xa_cons (x_bin y_add n_add (w_of (x_var (pv 1) rfl)) (w_of (x_b1 v_len n_len rfl (Y.free 1) hv_len (w_of (x_var (pv 4) rfl))))) xa_nil)))) (by intro _; rfl))) (ss_one (s_raise T (er_InvalidRow Y) (by decide) rfl (xa_cons (x_str (s := "out")) (xa_cons x_int xa_nil)))) ss_nil)
  (ss_cons (s_setF (att_ok (Y.more 0)) (ps_fld (pv 0) (x_var (pv 1) rfl) rfl) rfl)
  (ss_cons (s_setF (att_ok (Y.more 1)) (ps_fld (pv 0) (x_var (pv 4) rfl) rfl) rfl)
  (ss_one (s_setF (att_ok (Y.more 2)) (ps_fld (pv 0) (x_var (pv 3) rfl) rfl) rfl))))))))))
theorem S__law_first : FnScope N__law_first ["table", "width"] sc__law_first := ⟨rfl, rfl, rfl, by decide +kernel, rfl, by decide +kernel, by decide +kernel⟩
theorem c_law_first (Y : Fs P w K mg) : CallOk P w K mg base 1 "_law_first" d__law_first ["table", "width"] 2 m_law_first :=
  def_ok (d := d__law_first) (N := N__law_first) (ps := ["table", "width"]) (p := 2) (m := b__law_first) (k := 0) (ow := ow__law_first) (oN := owS []) (oB := owS []) (Y.def_ 8) (Y.glo 27) S__law_first rfl rfl (by decide) (fun _ _ _ _ _ _ us hl => match us, hl with | [_, _], _ => rfl) (fun cdv A outer s H E T => (c_cons (o1 := owS [2]) (c_own (ps_set (i := 2) T.nd rfl (Or.inl rfl) (f_lst (xa_cons (e_of (f_lc (own := [("leads", 7)]) T (i_gr (i_seq (x_var (pv 0) rfl))) (blkOk_by (N := N__law_first) (sc := sc__law_first) (own := [("leads", 7)]) (by decide +kernel)) (fun _ _ _ _ _ T1 => (g_nm (pg_name (i := 7) T1.nd rfl (Or.inl rfl)) rfl)) (fun _ _ _ _ _ T1 => ts_nil) (fun _ _ _ _ _ T1 => x_bl) (by decide))) xa_nil))) rfl (owS_add (by decide)))
  (c_cons (o1 := owS [2]) (s_up (s_for T.po T.calm (i_rng1 rfl (Y.free 11) (x_var (pv 1) rfl)) (g_nm (pg_name (i := 3) T.nd rfl (Or.inl rfl)) rfl) (c_cons (o1 := owS [2]) (s_up (s_set (ps_set (i := 4) T.nd rfl (Or.inr rfl) (x_idx T.ix (x_own (pv 2)) (w_of (x_un y_neg n_neg (w_of x_int))))) rfl) (owS_le (by decide)) (by decide))
  (c_one (s_up (s_app1 (i := 2) (pv 2) (e_of (f_lc (own := [("leads", 7)]) T (i_gr (i_seq (x_var (pv 0) rfl))) (blkOk_by (N := N__law_first) (sc := sc__law_first) (own := [("leads", 7)]) (by decide +kernel)) (fun _ _ _ _ _ T2 => (g_nm (pg_name (i := 7) T2.nd rfl (Or.inl rfl)) rfl)) (fun _ _ _ _ _ T2 => ts_nil) (fun _ _ _ _ _ T2 => (x_cmp y_gt n_gt (w_of (x_b1 v_len n_len rfl (Y.free 1) hv_len (w_of (e_of (f_lc (own := [("lead", 8)]) T2 (i_gr (i_seq (x_var (pv 7) rfl))) (blkOk_by (N := N__law_first) (own := [("lead", 8)]) (by kernel_rfl)) (fun _ _ _ _ _ T3 => (g_nm (pg_name (i := 8) T3.nd rfl (Or.inl rfl)) rfl)) (fun _ _ _ _ _ T3 => (ts_one (t_tst (w_of (x_idx T3.ix (w_of (x_var (pv 4) rfl)) (w_of (x_idx T3.ix (w_of (x_var (pv 8) rfl)) (w_of x_int))))) (by intro _; rfl)))) (fun _ _ _ _ _ T3 => (x_var (pv 8) rfl)) (by decide)))))) (w_of x_int) rfl)) (by decide))) rfl) (owS_le (by decide)) (by decide))))) (owS_le (by decide)) (by decide))
  (c_cut (o1 := owS []) (c_cons (o1 := owS []) (c_if (t_not (t_tst (w_of (x_idx T.ix (w_of (x_idx T.ix (w_of (x_var (pv 2) rfl)) (w_of (x_var (pv 1) rfl)))) (w_of x_int))) (by intro _; rfl))) (c_one (s_up (s_ret x_non) (owS_le (by decide)) (by decide))) (c_cut (o1 := owS []) c_nil (owS_le (by decide)) (by decide)))
  (c_cons (o1 := owS []) (s_up (s_set (ps_set (i := 5) T.nd rfl (Or.inl rfl) x_int) rfl) (owS_le (by decide)) (by decide))
  (c_cons (o1 := owS [6]) (c_own (ps_set (i := 6) T.nd rfl (Or.inl rfl) (f_lst xa_nil)) rfl (owS_add (by decide)))
  (c_cons (o1 := owS [6]) (s_up (s_for T.po T.calm (i_rng1 rfl (Y.free 11) (x_var (pv 1) rfl)) (g_nm (pg_name (i := 3) T.nd rfl (Or.inl rfl)) rfl) (c_cons (o1 := owS [6]) (s_up (s_set (ps_set (i := 4) T.nd rfl (Or.inr rfl) (x_idx T.ix (w_of (x_var (pv 2) rfl)) (w_of (x_bin y_sub n_sub (w_of (x_bin y_sub n_sub (w_of (x_var (pv 1) rfl)) (w_of (x_var (pv 3) rfl)))) (w_of x_int))))) rfl) (owS_le (by decide)) (by decide))
  (c_cons (o1 := owS [6]) (s_up (s_set (s_f (s_lc0 (i := 7) (own := [("lead", 8)]) T rfl rfl rfl (i_gr (i_seq (x_idx T.ix (w_of (x_var (pv 0) rfl)) (w_of (x_var (pv 5) rfl))))) (blkOk_by (N := N__law_first) (sc := sc__law_first) (own := [("lead", 8)]) (by decide +kernel)) (fun _ _ _ _ _ T4 => (g_nm (pg_name (i := 8) T4.nd rfl (Or.inl rfl)) rfl)) (fun _ _ _ _ _ T4 => (ts_one (t_tst (w_of (x_idx T4.ix (w_of (x_var (pv 4) rfl)) (w_of (x_idx T4.ix (w_of (x_var (pv 8) rfl)) (w_of x_int))))) (by intro _; rfl)))) (fun _ _ _ _ _ T4 => (x_var (pv 8) rfl)) (by decide))) rfl) (owS_le (by decide)) (by decide))
  (c_cons (o1 := owS [6]) (s_up (s_app1 (i := 6) (pv 6) (x_idx T.ix (w_of (x_idx T.ix (w_of (x_var (pv 7) rfl)) (w_of x_int))) (w_of x_int)) rfl) (owS_le (by decide)) (by decide))
  (c_one (s_up (s_set (ps_set (i := 5) T.nd rfl (Or.inl rfl) (x_idx T.ix (w_of (x_idx T.ix (w_of (x_var (pv 7) rfl)) (w_of x_int))) (w_of x_int))) rfl) (owS_le (by decide)) (by decide))))))) (owS_le (by decide)) (by decide))
  (c_cut (o1 := owS []) (c_one (s_up (s_ret (x_var (pv 6) rfl)) (owS_le (by decide)) (by decide))) (owS_le (by decide)) (by decide)))))) (owS_le (by decide)) (by decide)))))
theorem S__law_whole : FnScope N__law_whole ["value"] sc__law_whole := ⟨rfl, rfl, rfl, by decide +kernel, rfl, by decide +kernel, by decide +kernel⟩
theorem c_law_whole (Y : Fs P w K mg) : CallOk P w K mg base 1 "_law_whole" d__law_whole ["value"] 1 m_law_whole :=
  def_ok (d := d__law_whole) (N := N__law_whole) (ps := ["value"]) (p := 1) (m := b__law_whole) (k := 0) (ow := ow__law_whole) (Y.def_ 9) (Y.glo 28) S__law_whole rfl rfl (by decide) (fun _ _ _ _ _ _ us hl => match us, hl with | [_], _ => rfl) (fun cdv A outer s H E T => (ss_one (s_ret (x_and (x_isi1 (cs := CS) (t := .int) rfl (kit_of_b (Y.more 3)) rfl (Y.free 5) (w_of (x_var (pv 0) rfl)) (pe_bltn rfl (Y.free 0) hv_int rfl)) (x_one (x_not (x_isi1 (cs := CS) (t := .bl) rfl (kit_of_b (Y.more 3)) rfl (Y.free 5) (w_of (x_var (pv 0) rfl)) (pe_bltn rfl (Y.free 7) hv_bool rfl))))))))
theorem S__law_is_reading : FnScope N__law_is_reading ["answer", "due"] sc__law_is_reading := ⟨rfl, rfl, rfl, by decide +kernel, rfl, by decide +kernel, by decide +kernel⟩
theorem c_law_is_reading (Y : Fs P w K mg) : CallOk P w K mg base 2 "_law_is_reading" d__law_is_reading ["answer", "due"] 2 m_law_is_reading :=
  def_ok (d := d__law_is_reading) (N := N__law_is_reading) (ps := ["answer", "due"]) (p := 2) (m := b__law_is_reading) (k := 1) (ow := ow__law_is_reading) (Y.def_ 10) (Y.glo 29) S__law_is_reading rfl rfl (by decide) (fun _ _ _ _ _ _ us hl => match us, hl with | [_, _], _ => rfl) (fun cdv A outer s H E T => (ss_cons (s_if (t_isN (w_of (x_var (pv 1) rfl))) (ss_one (s_ret (x_isN (w_of (x_var (pv 0) rfl))))) ss_nil)
  (ss_cons (s_if (PW.pt (t_or (t_not (t_tst (w_of (x_isi1 (cs := CS) (t := .tup) rfl (kit_of_b (Y.more 3)) rfl (Y.free 5) (w_of (x_var (pv 0) rfl)) (pe_bltn rfl (Y.free 6) hv_tuple rfl))) (by intro _; rfl))) (t_or1 (t_cmp T.ne n_ne b_ne (w_of (x_b1 v_len n_len rfl (Y.free 1) hv_len (w_of (x_var (pv 0) rfl)))) (w_of (x_b1 v_len n_len rfl (Y.free 1) hv_len (w_of (x_var (pv 1) rfl)))) rfl)))) (ss_one (s_ret x_bl)) ss_nil)
  (ss_cons (s_for T.po T.calm (i_rng1 rfl (Y.free 11) (x_b1 v_len n_len rfl (Y.free 1) hv_len (w_of (x_var (pv 1) rfl)))) (g_nm (pg_name (i := 2) T.nd rfl (Or.inl rfl)) rfl) (ss_one (s_if (PW.pt (t_or (t_not (t_tst (w_of (x_own1 T (c_law_whole Y) (by decide) rfl (xa_cons (x_idx T.ix (w_of (x_var (pv 0) rfl)) (w_of (x_var (pv 2) rfl))) xa_nil))) (by intro _; rfl))) (t_or1 (t_cmp T.ne n_ne b_ne (w_of (x_idx T.ix (w_of (x_var (pv 0) rfl)) (w_of (x_var (pv 2) rfl)))) (w_of (x_idx T.ix (w_of (x_var (pv 1) rfl)) (w_of (x_var (pv 2) rfl)))) rfl)))) (ss_one (s_ret x_bl)) ss_nil)))
  (ss_one (s_ret x_bl))))))
theorem S__law_stays : FnScope N__law_stays ["row", "inputs", "deeds", "out"] sc__law_stays := ⟨rfl, rfl, rfl, by decide +kernel, rfl, by decide +kernel, by decide +kernel⟩
theorem c_law_stays (Y : Fs P w K mg) : CallOk P w K mg base 1 "_law_stays" d__law_stays ["row", "inputs", "deeds", "out"] 4 m_law_stays :=
  def_ok (d := d__law_stays) (N := N__law_stays) (ps := ["row", "inputs", "deeds", "out"]) (p := 4) (m := b__law_stays) (k := 0) (ow := ow__law_stays) (Y.def_ 11) (Y.glo 30) S__law_stays rfl rfl (by decide) (fun _ _ _ _ _ _ us hl => match us, hl with | [_, _, _, _], _ => rfl) (fun cdv A outer s H E T => (ss_one (s_ret (x_and (x_cmp T.eq n_eq (w_of (x_attr (att_ok (Y.more 0)) (w_of (x_var (pv 0) rfl)))) (w_of (x_var (pv 1) rfl)) rfl) (x_and (x_cmp T.eq n_eq (w_of (x_attr (att_ok (Y.more 1)) (w_of (x_var (pv 0) rfl)))) (w_of (x_t1 v_tuple n_tuple rfl (Y.free 6) hv_tuple (w_of (x_var (pv 2) rfl)))) rfl) (x_one (x_cmp T.eq n_eq (w_of (x_attr (att_ok (Y.more 2)) (w_of (x_var (pv 0) rfl)))) (w_of (x_var (pv 3) rfl)) rfl)))))))
theorem S__law_zeros : FnScope N__law_zeros ["table", "width"] sc__law_zeros := ⟨rfl, rfl, rfl, by decide +kernel, rfl, by decide +kernel, by decide +kernel⟩
theorem c_law_zeros (Y : Fs P w K mg) : CallOk P w K mg base 1 "_law_zeros" d__law_zeros ["table", "width"] 2 m_law_zeros :=
  def_ok (d := d__law_zeros) (N := N__law_zeros) (ps := ["table", "width"]) (p := 2) (m := b__law_zeros) (k := 0) (ow := ow__law_zeros) (oN := owS []) (oB := owS []) (Y.def_ 12) (Y.glo 31) S__law_zeros rfl rfl (by decide) (fun _ _ _ _ _ _ us hl => match us, hl with | [_, _], _ => rfl) (fun cdv A outer s H E T => (c_cons (o1 := owS [2]) (c_own (s_lc0 (i := 2) (own := [("leads", 8)]) T rfl rfl rfl (i_gr (i_seq (x_var (pv 0) rfl))) (blkOk_by (N := N__law_zeros) (sc := sc__law_zeros) (own := [("leads", 8)]) (by decide +kernel)) (fun _ _ _ _ _ T1 => (g_nm (pg_name (i := 8) T1.nd rfl (Or.inl rfl)) rfl)) (fun _ _ _ _ _ T1 => ts_nil) (fun _ _ _ _ _ T1 => x_int) (by decide)) rfl (owS_add (by decide)))
  (c_cons (o1 := owS [2]) (s_up (s_setL (i := 2) (ps_asg x_int (pg_sub (pv 2) x_int T.st)) rfl) (owS_le (by decide)) (by decide))
  (c_cut (o1 := owS []) (c_cons (o1 := owS []) (s_up (s_for T.po T.calm (i_rng1 rfl (Y.free 11) (x_var (pv 1) rfl)) (g_nm (pg_name (i := 3) T.nd rfl (Or.inl rfl)) rfl) (c_cons (o1 := owS [4]) (c_own (s_lc0 (i := 4) (own := [("leads", 8)]) T rfl rfl rfl (i_gr (i_seq (x_var (pv 0) rfl))) (blkOk_by (N := N__law_zeros) (sc := sc__law_zeros) (own := [("leads", 8)]) (by decide +kernel)) (fun _ _ _ _ _ T2 => (g_nm (pg_name (i := 8) T2.nd rfl (Or.inl rfl)) rfl)) (fun _ _ _ _ _ T2 => ts_nil) (fun _ _ _ _ _ T2 => x_int) (by decide)) rfl (owS_add (by decide)))
  (c_cons (o1 := owS [4]) (s_up (s_for T.po T.calm (i_rng1 rfl (Y.free 11) (x_b1 v_len n_len rfl (Y.free 1) hv_len (w_of (x_var (pv 0) rfl)))) (g_nm (pg_name (i := 5) T.nd rfl (Or.inl rfl)) rfl) (c_one (c_if (t_cmp y_gt n_gt b_gt (w_of (x_idx T.ix (w_of (x_var (pv 2) rfl)) (w_of (x_var (pv 5) rfl)))) (w_of x_int) rfl) (c_one (s_up (s_for T.po T.calm (i_seq (x_idx T.ix (w_of (x_var (pv 0) rfl)) (w_of (x_var (pv 5) rfl)))) (g_tup T.calm (gs_cons (g_nm (pg_name (i := 6) T.nd rfl (Or.inl rfl)) rfl) (gs_cons (g_nm (pg_name (i := 7) T.nd rfl (Or.inl rfl)) rfl) gs_nil))) (c_one (s_up (s_setL (i := 4) (ps_asg (x_bin y_add n_add (w_of (x_idx T.ix (x_own (pv 4)) (w_of (x_var (pv 7) rfl)))) (w_of (x_idx T.ix (w_of (x_var (pv 2) rfl)) (w_of (x_var (pv 5) rfl))))) (pg_sub (pv 4) (x_var (pv 7) rfl) T.st)) rfl) (owS_le (by decide)) (by decide)))) (owS_le (by decide)) (by decide))) (c_cut (o1 := owS [4]) c_nil (owS_le (by decide)) (by decide))))) (owS_le (by decide)) (by decide))
  (c_cut (o1 := owS []) (c_one (s_up (s_set (ps_set (i := 2) T.nd rfl (Or.inl rfl) (x_var (pv 4) rfl)) rfl) (owS_le (by decide)) (by decide))) (owS_le (by decide)) (by decide))))) (owS_le (by decide)) (by decide))
  (c_one (s_up (s_ret (x_b1 (v_sum T.calm) n_sum rfl (Y.free 12) hv_sum (w_of (x_var (pv 2) rfl)))) (owS_le (by decide)) (by decide)))) (owS_le (by decide)) (by decide)))))
theorem S_is_number : FnScope N_is_number ["value"] sc_is_number := ⟨rfl, rfl, rfl, by decide +kernel, rfl, by decide +kernel, by decide +kernel⟩
theorem c_is_number (Y : Fs P w K mg) : CallOk P w K mg base 2 "is_number" d_is_number ["value"] 1 m_is_number :=
  def_ok (d := d_is_number) (N := N_is_number) (ps := ["value"]) (p := 1) (m := b_is_number) (k := 1) (ow := ow_is_number) (Y.def_ 13) (Y.glo 32) S_is_number rfl rfl (by decide) (fun _ _ _ _ _ _ us hl => match us, hl with | [_], _ => rfl) (fun cdv A outer s H E T => (ss_one (s_ret (x_and (x_own1 T (c_is_integer Y) (by decide) rfl (xa_cons (x_var (pv 0) rfl) xa_nil)) (x_one (x_cmp y_ge n_ge (w_of (x_var (pv 0) rfl)) (w_of x_int) rfl))))))
theorem S_mark_column : FnScope N_mark_column ["mark", "size"] sc_mark_column := ⟨rfl, rfl, rfl, by decide +kernel, rfl, by decide +kernel, by decide +kernel⟩
theorem c_mark_column (Y : Fs P w K mg) : CallOk P w K mg base 1 "mark_column" d_mark_column ["mark", "size"] 2 m_mark_column :=
  def_ok (d := d_mark_column) (N := N_mark_column) (ps := ["mark", "size"]) (p := 2) (m := b_mark_column) (k := 0) (ow := ow_mark_column) (Y.def_ 14) (Y.glo 33) S_mark_column rfl rfl (by decide) (fun _ _ _ _ _ _ us hl => match us, hl with | [_, _], _ => rfl) (fun cdv A outer s H E T => (ss_cons (s_if (t_tst (w_of (x_isi1 (cs := CS) (t := .int) rfl (kit_of_b (Y.more 3)) rfl (Y.free 5) (w_of (x_var (pv 0) rfl)) (pe_bltn rfl (Y.free 0) hv_int rfl))) (by intro _; rfl)) (ss_one (s_ret (e_of (f_lc (own := [("at", 2)]) T (i_gr (i_rng1 rfl (Y.free 11) (x_var (pv 1) rfl))) (blkOk_by (N := N_mark_column) (sc := sc_mark_column) (own := [("at", 2)]) (by decide +kernel)) (fun _ _ _ _ _ T1 => (g_nm (pg_name (i := 2) T1.nd rfl (Or.inl rfl)) rfl)) (fun _ _ _ _ _ T1 => ts_nil) (fun _ _ _ _ _ T1 => (x_bin y_and n_and (w_of (x_bin y_shr n_shr (w_of (x_var (pv 0) rfl)) (w_of (x_var (pv 2) rfl)))) (w_of x_int))) (by decide))))) ss_nil)
  (ss_one (s_ret (e_of (f_lc (own := [("at", 2)]) T (i_gr (i_rng1 rfl (Y.free 11) (x_var (pv 1) rfl))) (blkOk_by (N := N_mark_column) (sc := sc_mark_column) (own := [("at", 2)]) (by decide +kernel)) (fun _ _ _ _ _ T2 => (g_nm (pg_name (i := 2) T2.nd rfl (Or.inr rfl)) rfl)) (fun _ _ _ _ _ T2 => ts_nil) (fun _ _ _ _ _ T2 => (x_b1 (v_sum T2.calm) n_sum rfl (Y.free 12) hv_sum (w_of (e_of (f_lc (own := [("rest", 3)]) T2 (i_gr (i_rng2 rfl (Y.free 11) x_int (x_b1 v_len n_len rfl (Y.free 1) hv_len (w_of (x_var (pv 0) rfl))))) (blkOk_by (N := N_mark_column) (own := [("rest", 3)]) (by kernel_rfl)) (fun _ _ _ _ _ T3 => (g_nm (pg_name (i := 3) T3.nd rfl (Or.inl rfl)) rfl)) (fun _ _ _ _ _ T3 => ts_nil) (fun _ _ _ _ _ T3 => (x_bin y_mul n_mul (w_of (x_var (pv 3) rfl)) (w_of (x_bin y_and n_and (w_of (x_bin y_shr n_shr (w_of (x_idx T3.ix (w_of (x_var (pv 0) rfl)) (w_of (x_var (pv 3) rfl)))) (w_of (x_var (pv 2) rfl)))) (w_of x_int))))) (by decide)))))) (by decide)))))))
theorem S_mark_deeds : FnScope N_mark_deeds ["row"] sc_mark_deeds := ⟨rfl, rfl, rfl, by decide +kernel, rfl, by decide +kernel, by decide +kernel⟩
theorem c_mark_deeds (Y : Fs P w K mg) : CallOk P w K mg base 1 "mark_deeds" d_mark_deeds ["row"] 1 m_mark_deeds :=
  def_ok (d := d_mark_deeds) (N := N_mark_deeds) (ps := ["row"]) (p := 1) (m := b_mark_deeds) (k := 0) (ow := ow_mark_deeds) (Y.def_ 15) (Y.glo 34) S_mark_deeds rfl rfl (by decide) (fun _ _ _ _ _ _ us hl => match us, hl with | [_], _ => rfl) (fun cdv A outer s H E T => (ss_one (s_ret (e_of (f_lc (own := [("deed", 1)]) T (i_gr (i_seq (x_attr (att_ok (Y.more 1)) (w_of (x_var (pv 0) rfl))))) (blkOk_by (N := N_mark_deeds) (sc := sc_mark_deeds) (own := [("deed", 1)]) (by decide +kernel)) (fun _ _ _ _ _ T1 => (g_nm (pg_name (i := 1) T1.nd rfl (Or.inl rfl)) rfl)) (fun _ _ _ _ _ T1 => (ts_one (t_cmp T1.inn n_in b_in (w_of (x_idx T1.ix (w_of (x_var (pv 1) rfl)) (w_of x_int))) (w_of (x_gtup (y := "MARKED") (ds := tup_MARKED) rfl rfl (Y.glo 14) (Y.more 5) rfl)) rfl))) (fun _ _ _ _ _ T1 => (x_var (pv 1) rfl)) (by decide))))))
theorem S_spread_mark : FnScope N_spread_mark ["many", "place", "mark", "block", "size"] sc_spread_mark := ⟨rfl, rfl, rfl, by decide +kernel, rfl, by decide +kernel, by decide +kernel⟩
theorem c_spread_mark (Y : Fs P w K mg) : CallOk P w K mg base 1 "spread_mark" d_spread_mark ["many", "place", "mark", "block", "size"] 5 m_spread_mark :=
  def_ok (d := d_spread_mark) (N := N_spread_mark) (ps := ["many", "place", "mark", "block", "size"]) (p := 5) (m := b_spread_mark) (k := 0) (ow := ow_spread_mark) (Y.def_ 16) (Y.glo 35) S_spread_mark rfl rfl (by decide) (fun _ _ _ _ _ _ us hl => match us, hl with | [_, _, _, _, _], _ => rfl) (fun cdv A outer s H E T => (ss_cons (s_set (ps_set (i := 5) T.nd rfl (Or.inl rfl) x_int) rfl)
  (ss_cons (s_for T.po T.calm (i_enum rfl (Y.free 4) (x_var (pv 0) rfl)) (g_tup T.calm (gs_cons (g_nm (pg_name (i := 6) T.nd rfl (Or.inl rfl)) rfl) (gs_cons (g_nm (pg_name (i := 7) T.nd rfl (Or.inl rfl)) rfl) gs_nil))) (ss_one (s_if (t_cmp T.eq n_eq b_eq (w_of (x_idx T.ix (w_of (x_var (pv 7) rfl)) (w_of (x_var (pv 1) rfl)))) (w_of (x_var (pv 2) rfl)) rfl) (ss_one (s_aug (ps_aug (i := 5) T.nd rfl (Or.inl rfl) (w_of (x_bin y_shl n_shl (w_of (x_var (pv 3) rfl)) (w_of (x_bin y_mul n_mul (w_of (x_var (pv 6) rfl)) (w_of (x_var (pv 4) rfl)))))) ip_or) rfl h_ior n_ior rfl)) ss_nil)))
  (ss_one (s_ret (x_var (pv 5) rfl))))))
theorem S_held_lanes : FnScope N_held_lanes ["row", "many", "block", "size"] sc_held_lanes := ⟨rfl, rfl, rfl, by decide +kernel, rfl, by decide +kernel, by decide +kernel⟩
theorem c_held_lanes (Y : Fs P w K mg) : CallOk P w K mg base 2 "held_lanes" d_held_lanes ["row", "many", "block", "size"] 4 m_held_lanes :=
  def_ok (d := d_held_lanes) (N := N_held_lanes) (ps := ["row", "many", "block", "size"]) (p := 4) (m := b_held_lanes) (k := 1) (ow := ow_held_lanes) (oN := owS []) (oB := owS []) (Y.def_ 17) (Y.glo 36) S_held_lanes rfl rfl (by decide) (fun _ _ _ _ _ _ us hl => match us, hl with | [_, _, _, _], _ => rfl) (fun cdv A outer s H E T => (c_cons (o1 := owS [4]) (c_own (ps_set (i := 4) T.nd rfl (Or.inl rfl) (f_lst xa_nil)) rfl (owS_add (by decide)))
  (c_cons (o1 := owS [4]) (s_up (s_for T.po T.calm (i_enum rfl (Y.free 4) (x_own1 T (c_mark_deeds Y) (by decide) rfl (xa_cons (x_var (pv 0) rfl) xa_nil))) (g_tup T.calm (gs_cons (g_nm (pg_name (i := 5) T.nd rfl (Or.inr rfl)) rfl) (gs_cons (g_nm (pg_name (i := 6) T.nd rfl (Or.inl rfl)) rfl) gs_nil))) (c_one (c_if (t_cmp T.eq n_eq b_eq (w_of (x_idx T.ix (w_of (x_var (pv 6) rfl)) (w_of x_int))) (w_of (x_str (s := "count"))) rfl) (c_one (s_up (s_app1 (i := 4) (pv 4) (e_of (f_lc (own := [("rest", 7)]) T (i_gr (i_rng1 rfl (Y.free 11) (x_idx T.ix (w_of (x_var (pv 6) rfl)) (w_of x_int)))) (blkOk_by (N := N_held_lanes) (sc := sc_held_lanes) (own := [("rest", 7)]) (by decide +kernel)) (fun _ _ _ _ _ T1 => (g_nm (pg_name (i := 7) T1.nd rfl (Or.inl rfl)) rfl)) (fun _ _ _ _ _ T1 => ts_nil) (fun _ _ _ _ _ T1 => (x_own1 T1 (c_spread_mark Y) (by decide) rfl (xa_cons (x_var (pv 1) rfl) (xa_cons (x_var (pv 5) rfl) (xa_cons (x_var (pv 7) rfl) (xa_cons (x_var (pv 2) rfl) (xa_cons (x_var (pv 3) rfl) xa_nil))))))) (by decide))) rfl) (owS_le (by decide)) (by decide))) (c_one (s_up (s_app1 (i := 4) (pv 4) (x_own1 T (c_spread_mark Y) (by decide) rfl (xa_cons (x_var (pv 1) rfl) (xa_cons (x_var (pv 5) rfl) (xa_cons x_int (xa_cons (x_var (pv 2) rfl) (xa_cons (x_var (pv 3) rfl) xa_nil)))))) rfl) (owS_le (by decide)) (by decide)))))) (owS_le (by decide)) (by decide))
  (c_cut (o1 := owS []) (c_one (s_up (s_ret (x_var (pv 4) rfl)) (owS_le (by decide)) (by decide))) (owS_le (by decide)) (by decide)))))
theorem S_carry_step : FnScope N_carry_step ["name", "one", "other", "mark"] sc_carry_step := ⟨rfl, rfl, rfl, by decide +kernel, rfl, by decide +kernel, by decide +kernel⟩
theorem c_carry_step (Y : Fs P w K mg) : CallOk P w K mg base 1 "carry_step" d_carry_step ["name", "one", "other", "mark"] 4 m_carry_step :=
  def_ok (d := d_carry_step) (N := N_carry_step) (ps := ["name", "one", "other", "mark"]) (p := 4) (m := b_carry_step) (k := 0) (ow := ow_carry_step) (Y.def_ 18) (Y.glo 37) S_carry_step rfl rfl (by decide) (fun _ _ _ _ _ _ us hl => match us, hl with | [_, _, _, _], _ => rfl) (fun cdv A outer s H E T => (ss_cons (s_if (t_cmp T.eq n_eq b_eq (w_of (x_var (pv 0) rfl)) (w_of (x_str (s := "shift"))) rfl) (ss_one (s_ret (x_tup (xa_cons (x_var (pv 3) rfl) (xa_cons (x_var (pv 1) rfl) xa_nil))))) ss_nil)
  (ss_cons (s_if (t_cmp T.eq n_eq b_eq (w_of (x_var (pv 0) rfl)) (w_of (x_str (s := "minus"))) rfl) (ss_one (s_ret (x_tup (xa_cons (x_bin y_xor n_xor (w_of (x_var (pv 1) rfl)) (w_of (x_var (pv 3) rfl))) (xa_cons (x_bin y_or n_or (w_of (x_var (pv 1) rfl)) (w_of (x_var (pv 3) rfl))) xa_nil))))) ss_nil)
  (ss_cons (s_if (t_cmp T.eq n_eq b_eq (w_of (x_var (pv 0) rfl)) (w_of (x_str (s := "add"))) rfl) (ss_one (s_ret (x_tup (xa_cons (x_bin y_xor n_xor (w_of (x_bin y_xor n_xor (w_of (x_var (pv 1) rfl)) (w_of (x_var (pv 2) rfl)))) (w_of (x_var (pv 3) rfl))) (xa_cons (x_bin y_or n_or (w_of (x_bin y_and n_and (w_of (x_var (pv 1) rfl)) (w_of (x_var (pv 2) rfl)))) (w_of (x_bin y_and n_and (w_of (x_bin y_or n_or (w_of (x_var (pv 1) rfl)) (w_of (x_var (pv 2) rfl)))) (w_of (x_var (pv 3) rfl))))) xa_nil))))) ss_nil)
  (ss_one (s_ret (x_tup (xa_cons (x_bin y_xor n_xor (w_of (x_bin y_xor n_xor (w_of (x_var (pv 1) rfl)) (w_of (x_var (pv 2) rfl)))) (w_of (x_var (pv 3) rfl))) (xa_cons (x_bin y_or n_or (w_of (x_bin y_and n_and (w_of (x_bin y_or n_or (w_of (x_var (pv 2) rfl)) (w_of (x_var (pv 3) rfl)))) (w_of (x_un y_inv n_inv (w_of (x_var (pv 1) rfl)))))) (w_of (x_bin y_and n_and (w_of (x_var (pv 2) rfl)) (w_of (x_var (pv 3) rfl))))) xa_nil)))))))))
theorem S_turned_counts : FnScope N_turned_counts ["held", "parts"] sc_turned_counts := ⟨rfl, rfl, rfl, by decide +kernel, rfl, by decide +kernel, by decide +kernel⟩
theorem c_turned_counts (Y : Fs P w K mg) : CallOk P w K mg base 1 "turned_counts" d_turned_counts ["held", "parts"] 2 m_turned_counts :=
  def_ok (d := d_turned_counts) (N := N_turned_counts) (ps := ["held", "parts"]) (p := 2) (m := b_turned_counts) (k := 0) (ow := ow_turned_counts) (Y.def_ 19) (Y.glo 38) S_turned_counts rfl rfl (by decide) (fun _ _ _ _ _ _ us hl => match us, hl with | [_, _], _ => rfl) (fun cdv A outer s H E T => (ss_cons (s_set (ps_set (i := 2) T.nd rfl (Or.inr rfl) (x_var (pv 0) rfl)) rfl)
  (ss_cons (s_for T.po T.calm (i_seq (x_var (pv 1) rfl)) (g_nm (pg_name (i := 3) T.nd rfl (Or.inr rfl)) rfl) (ss_one (s_set (ps_set (i := 2) T.nd rfl (Or.inr rfl) (e_of (f_lc (own := [("rest", 4)]) T (i_gr (i_rng1 rfl (Y.free 11) (x_b1 v_len n_len rfl (Y.free 1) hv_len (w_of (x_var (pv 2) rfl))))) (blkOk_by (N := N_turned_counts) (sc := sc_turned_counts) (own := [("rest", 4)]) (by decide +kernel)) (fun _ _ _ _ _ T1 => (g_nm (pg_name (i := 4) T1.nd rfl (Or.inl rfl)) rfl)) (fun _ _ _ _ _ T1 => ts_nil) (fun _ _ _ _ _ T1 => (x_bin y_or n_or (w_of (x_bin y_and n_and (w_of (x_idx T1.ix (w_of (x_var (pv 2) rfl)) (w_of (x_var (pv 4) rfl)))) (w_of (x_un y_inv n_inv (w_of (x_var (pv 3) rfl)))))) (w_of (x_bin y_and n_and (w_of (x_idx T1.ix (w_of (x_var (pv 2) rfl)) (w_of (x_bin y_sub n_sub (w_of (x_var (pv 4) rfl)) (w_of x_int))))) (w_of (x_var (pv 3) rfl)))))) (by decide)))) rfl)))
  (ss_one (s_ret (x_var (pv 2) rfl))))))
theorem S_run_deeds : FnScope N_run_deeds ["row", "begin", "held", "full"] sc_run_deeds := ⟨rfl, rfl, rfl, by decide +kernel, rfl, by decide +kernel, by decide +kernel⟩
theorem c_run_deeds (Y : Fs P w K mg) : CallOk P w K mg base 2 "run_deeds" d_run_deeds ["row", "begin", "held", "full"] 4 m_run_deeds :=
  def_ok (d := d_run_deeds) (N := N_run_deeds) (ps := ["row", "begin", "held", "full"]) (p := 4) (m := b_run_deeds) (k := 1) (ow := ow_run_deeds) (oN := owS []) (oB := owS []) (Y.def_ 20) (Y.glo 39) S_run_deeds rfl rfl (by decide) (fun _ _ _ _ _ _ us hl => match us, hl with | [_, _, _, _], _ => rfl) (fun cdv A outer s H E T => (c_cons (o1 := owS [4]) (c_own (ps_set (i := 4) T.nd rfl (Or.inr rfl) (f_list rfl rfl (Y.free 3) (w_of (x_var (pv 1) rfl)))) rfl (owS_add (by decide)))
  (c_cons (o1 := owS [4, 5]) (c_own (ps_set (i := 5) T.nd rfl (Or.inl rfl) (f_lst xa_nil)) rfl (owS_add (by decide)))
  (c_cons (o1 := owS [4, 5]) (s_up (s_for T.po T.calm (i_seq (x_attr (att_ok (Y.more 1)) (w_of (x_var (pv 0) rfl)))) (g_nm (pg_name (i := 6) T.nd rfl (Or.inl rfl)) rfl) (c_cons (o1 := owS [4, 5]) (s_up (s_set (ps_set (i := 7) T.nd rfl (Or.inl rfl) (x_idx T.ix (w_of (x_var (pv 6) rfl)) (w_of x_int))) rfl) (owS_le (by decide)) (by decide))
  (c_cons (o1 := owS [4, 5]) (c_if (t_cmp T.eq n_eq b_eq (w_of (x_var (pv 7) rfl)) (w_of (x_str (s := "and"))) rfl) (c_one (s_up (s_set (ps_set (i := 8) T.nd rfl (Or.inl rfl) (x_bin y_and n_and (w_of (x_idx T.ix (x_own (pv 4)) (w_of (x_idx T.ix (w_of (x_var (pv 6) rfl)) (w_of x_int))))) (w_of (x_idx T.ix (x_own (pv 4)) (w_of (x_idx T.ix (w_of (x_var (pv 6) rfl)) (w_of x_int))))))) rfl) (owS_le (by decide)) (by decide))) (c_one (c_if (t_cmp T.eq n_eq b_eq (w_of (x_var (pv 7) rfl)) (w_of (x_str (s := "or"))) rfl) (c_one (s_up (s_set (ps_set (i := 8) T.nd rfl (Or.inl rfl) (x_bin y_or n_or (w_of (x_idx T.ix (x_own (pv 4)) (w_of (x_idx T.ix (w_of (x_var (pv 6) rfl)) (w_of x_int))))) (w_of (x_idx T.ix (x_own (pv 4)) (w_of (x_idx T.ix (w_of (x_var (pv 6) rfl)) (w_of x_int))))))) rfl) (owS_le (by decide)) (by decide))) (c_one (c_if (t_cmp T.eq n_eq b_eq (w_of (x_var (pv 7) rfl)) (w_of (x_str (s := "xor"))) rfl) (c_one (s_up (s_set (ps_set (i := 8) T.nd rfl (Or.inl rfl) (x_bin y_xor n_xor (w_of (x_idx T.ix (x_own (pv 4)) (w_of (x_idx T.ix (w_of (x_var (pv 6) rfl)) (w_of x_int))))) (w_of (x_idx T.ix (x_own (pv 4)) (w_of (x_idx T.ix (w_of (x_var (pv 6) rfl)) (w_of x_int))))))) rfl) (owS_le (by decide)) (by decide))) (c_one (c_if (t_cmp T.eq n_eq b_eq (w_of (x_var (pv 7) rfl)) (w_of (x_str (s := "not"))) rfl) (c_one (s_up (s_set (ps_set (i := 8) T.nd rfl (Or.inl rfl) (x_bin y_xor n_xor (w_of (x_var (pv 3) rfl)) (w_of (x_idx T.ix (x_own (pv 4)) (w_of (x_idx T.ix (w_of (x_var (pv 6) rfl)) (w_of x_int))))))) rfl) (owS_le (by decide)) (by decide))) (c_one (c_if (t_cmp T.eq n_eq b_eq (w_of (x_var (pv 7) rfl)) (w_of (x_str (s := "zero"))) rfl) (c_one (s_up (s_set (ps_set (i := 8) T.nd rfl (Or.inl rfl) x_int) rfl) (owS_le (by decide)) (by decide))) (c_one (c_if (t_cmp T.eq n_eq b_eq (w_of (x_var (pv 7) rfl)) (w_of (x_str (s := "ones"))) rfl) (c_one (s_up (s_set (ps_set (i := 8) T.nd rfl (Or.inl rfl) (x_var (pv 3) rfl)) rfl) (owS_le (by decide)) (by decide))) (c_one (c_if (t_cmp T.eq n_eq b_eq (w_of (x_var (pv 7) rfl)) (w_of (x_str (s := "count"))) rfl) (c_cons (o1 := owS [4, 5]) (s_up (s_set (ps_set (i := 9) T.nd rfl (Or.inl rfl) (x_idx T.ix (w_of (x_var (pv 2) rfl)) (w_of (x_b1 v_len n_len rfl (Y.free 1) hv_len (x_own (pv 5)))))) rfl) (owS_le (by decide)) (by decide))
  (c_cons (o1 := owS [4, 5]) (s_up (s_set (ps_set (i := 8) T.nd rfl (Or.inl rfl) (x_idx T.ix (w_of (x_var (pv 9) rfl)) (w_of (x_idx T.ix (w_of (x_var (pv 6) rfl)) (w_of x_int))))) rfl) (owS_le (by decide)) (by decide))
  (c_one (s_up (s_app1 (i := 5) (pv 5) (x_own1 T (c_turned_counts Y) (by decide) rfl (xa_cons (x_var (pv 9) rfl) (xa_cons (e_of (f_lc (own := [("i", 11)]) T (i_gr (i_seq (x_idx T.ix (w_of (x_var (pv 6) rfl)) (w_of x_int)))) (blkOk_by (N := N_run_deeds) (sc := sc_run_deeds) (own := [("i", 11)]) (by decide +kernel)) (fun _ _ _ _ _ T1 => (g_nm (pg_name (i := 11) T1.nd rfl (Or.inl rfl)) rfl)) (fun _ _ _ _ _ T1 => ts_nil) (fun _ _ _ _ _ T1 => (x_idx T1.ix (x_own (pv 4)) (w_of (x_var (pv 11) rfl)))) (by decide))) xa_nil))) rfl) (owS_le (by decide)) (by decide))))) (c_cons (o1 := owS [4, 5]) (s_up (s_gen (ps_asg (x_own1 T (c_carry_step Y) (by decide) rfl (xa_cons (x_var (pv 7) rfl) (xa_cons (x_idx T.ix (x_own (pv 4)) (w_of (x_idx T.ix (w_of (x_var (pv 6) rfl)) (w_of x_int)))) (xa_cons (x_idx T.ix (x_own (pv 4)) (w_of (x_idx T.ix (w_of (x_var (pv 6) rfl)) (w_of (x_un y_neg n_neg (w_of x_int)))))) (xa_cons (x_idx T.ix (w_of (x_var (pv 2) rfl)) (w_of (x_b1 v_len n_len rfl (Y.free 1) hv_len (x_own (pv 5))))) xa_nil))))) (g_tup T.calm (gs_cons (g_nm (pg_name (i := 8) T.nd rfl (Or.inl rfl)) rfl) (gs_cons (g_nm (pg_name (i := 10) T.nd rfl (Or.inl rfl)) rfl) gs_nil))))) (owS_le (by decide)) (by decide))
  (c_one (s_up (s_app1 (i := 5) (pv 5) (x_var (pv 10) rfl) rfl) (owS_le (by decide)) (by decide)))))))))))))))))
  (c_one (s_up (s_app1 (i := 4) (pv 4) (x_var (pv 8) rfl) rfl) (owS_le (by decide)) (by decide)))))) (owS_le (by decide)) (by decide))
  (c_cut (o1 := owS []) (c_one (s_up (s_ret (x_tup (xa_cons (x_var (pv 4) rfl) (xa_cons (x_var (pv 5) rfl) xa_nil)))) (owS_le (by decide)) (by decide))) (owS_le (by decide)) (by decide))))))
theorem S_wide_lanes : FnScope N_wide_lanes ["row", "many"] sc_wide_lanes := ⟨rfl, rfl, rfl, by decide +kernel, rfl, by decide +kernel, by decide +kernel⟩
theorem c_wide_lanes (Y : Fs P w K mg) : CallOk P w K mg base 3 "wide_lanes" d_wide_lanes ["row", "many"] 2 m_wide_lanes :=
  def_ok (d := d_wide_lanes) (N := N_wide_lanes) (ps := ["row", "many"]) (p := 2) (m := b_wide_lanes) (k := 2) (ow := ow_wide_lanes) (oN := owS []) (oB := owS []) (Y.def_ 21) (Y.glo 40) S_wide_lanes rfl rfl (by decide) (fun _ _ _ _ _ _ us hl => match us, hl with | [_, _], _ => rfl) (fun cdv A outer s H E T => (c_cons (o1 := owS []) (s_up (s_set (ps_set (i := 2) T.nd rfl (Or.inl rfl) (x_bin y_shl n_shl (w_of x_int) (w_of (x_attr (att_ok (Y.more 0)) (w_of (x_var (pv 0) rfl)))))) rfl) (owS_le (by decide)) (by decide))
  (c_cons (o1 := owS []) (s_up (s_set (ps_set (i := 3) T.nd rfl (Or.inl rfl) (x_bin y_sub n_sub (w_of (x_bin y_shl n_shl (w_of x_int) (w_of (x_var (pv 2) rfl)))) (w_of x_int))) rfl) (owS_le (by decide)) (by decide))
  (c_cons (o1 := owS []) (s_up (s_set (ps_set (i := 4) T.nd rfl (Or.inl rfl) (x_bin y_sub n_sub (w_of (x_bin y_shl n_shl (w_of x_int) (w_of (x_bin y_mul n_mul (w_of (x_var (pv 2) rfl)) (w_of (x_b1 v_len n_len rfl (Y.free 1) hv_len (w_of (x_var (pv 1) rfl)))))))) (w_of x_int))) rfl) (owS_le (by decide)) (by decide))
  (c_cons (o1 := owS [5]) (c_own (ps_set (i := 5) T.nd rfl (Or.inl rfl) (f_lst xa_nil)) rfl (owS_add (by decide)))
  (c_cons (o1 := owS [5]) (s_up (s_for T.po T.calm (i_rng1 rfl (Y.free 11) (x_attr (att_ok (Y.more 0)) (w_of (x_var (pv 0) rfl)))) (g_nm (pg_name (i := 6) T.nd rfl (Or.inr rfl)) rfl) (c_one (s_up (s_app1 (i := 5) (pv 5) (x_bin y_mul n_mul (w_of (x_b1 (v_sum T.calm) n_sum rfl (Y.free 12) hv_sum (w_of (e_of (f_lc (own := [("letter", 7)]) T (i_gr (i_rng1 rfl (Y.free 11) (x_var (pv 2) rfl))) (blkOk_by (N := N_wide_lanes) (sc := sc_wide_lanes) (own := [("letter", 7)]) (by decide +kernel)) (fun _ _ _ _ _ T1 => (g_nm (pg_name (i := 7) T1.nd rfl (Or.inl rfl)) rfl)) (fun _ _ _ _ _ T1 => (ts_one (t_tst (w_of (x_bin y_and n_and (w_of (x_bin y_shr n_shr (w_of (x_var (pv 7) rfl)) (w_of (x_var (pv 6) rfl)))) (w_of x_int))) (by intro _; rfl)))) (fun _ _ _ _ _ T1 => (x_bin y_shl n_shl (w_of x_int) (w_of (x_var (pv 7) rfl)))) (by decide)))))) (w_of (x_bin y_fdiv n_fdiv (w_of (x_var (pv 4) rfl)) (w_of (x_var (pv 3) rfl))))) rfl) (owS_le (by decide)) (by decide)))) (owS_le (by decide)) (by decide))
  (c_cut (o1 := owS []) (c_one (s_up (s_ret (x_own1 T (c_run_deeds Y) (by decide) rfl (xa_cons (x_var (pv 0) rfl) (xa_cons (x_var (pv 5) rfl) (xa_cons (x_own1 T (c_held_lanes Y) (by decide) rfl (xa_cons (x_var (pv 0) rfl) (xa_cons (x_var (pv 1) rfl) (xa_cons (x_var (pv 3) rfl) (xa_cons (x_var (pv 2) rfl) xa_nil))))) (xa_cons (x_var (pv 4) rfl) xa_nil)))))) (owS_le (by decide)) (by decide))) (owS_le (by decide)) (by decide))))))))
theorem S_many_lanes : FnScope N_many_lanes ["row", "many"] sc_many_lanes := ⟨rfl, rfl, rfl, by decide +kernel, rfl, by decide +kernel, by decide +kernel⟩
theorem c_many_lanes (Y : Fs P w K mg) : CallOk P w K mg base 4 "many_lanes" d_many_lanes ["row", "many"] 2 m_many_lanes :=
  def_ok (d := d_many_lanes) (N := N_many_lanes) (ps := ["row", "many"]) (p := 2) (m := b_many_lanes) (k := 3) (ow := ow_many_lanes) (Y.def_ 22) (Y.glo 41) S_many_lanes rfl rfl (by decide) (fun _ _ _ _ _ _ us hl => match us, hl with | [_, _], _ => rfl) (fun cdv A outer s H E T => (ss_cons (s_gen (ps_asg (x_own1 T (c_wide_lanes Y) (by decide) rfl (xa_cons (x_var (pv 0) rfl) (xa_cons (x_var (pv 1) rfl) xa_nil))) (g_tup T.calm (gs_cons (g_nm (pg_name (i := 2) T.nd rfl (Or.inl rfl)) rfl) (gs_cons (g_nm (pg_name (i := 3) T.nd rfl (Or.inl rfl)) rfl) gs_nil)))))
  (ss_cons (s_set (ps_set (i := 4) T.nd rfl (Or.inr rfl) (x_bin y_mul n_mul (w_of (x_bin y_shl n_shl (w_of x_int) (w_of (x_attr (att_ok (Y.more 0)) (w_of (x_var (pv 0) rfl)))))) (w_of (x_b1 v_len n_len rfl (Y.free 1) hv_len (w_of (x_var (pv 1) rfl)))))) rfl)
  (ss_cons (s_if (t_not (t_tst (w_of (x_var (pv 3) rfl)) (by intro _; rfl))) (ss_one (s_ret (x_tup (xa_cons (x_var (pv 2) rfl) (xa_cons (e_of (f_rep (f_lst (xa_cons (x_tup xa_nil) xa_nil)) (w_of (x_var (pv 4) rfl)))) xa_nil))))) ss_nil)
  (ss_cons (s_set (s_f (s_lc0 (i := 5) (own := [("mark", 6)]) T rfl rfl rfl (i_gr (i_seq (x_var (pv 3) rfl))) (blkOk_by (N := N_many_lanes) (sc := sc_many_lanes) (own := [("mark", 6)]) (by decide +kernel)) (fun _ _ _ _ _ T1 => (g_nm (pg_name (i := 6) T1.nd rfl (Or.inl rfl)) rfl)) (fun _ _ _ _ _ T1 => ts_nil) (fun _ _ _ _ _ T1 => (x_own1 T1 (c_mark_column Y) (by decide) rfl (xa_cons (x_var (pv 6) rfl) (xa_cons (x_var (pv 4) rfl) xa_nil)))) (by decide))) rfl)
  (ss_one (s_ret (x_tup (xa_cons (x_var (pv 2) rfl) (xa_cons (e_of (f_lzip T.calm rfl (Y.free 3) rfl (Y.free 13) (x_var (pv 5) rfl))) xa_nil))))))))))
theorem S_all_lanes : FnScope N_all_lanes ["row", "marks"] sc_all_lanes := ⟨rfl, rfl, rfl, by decide +kernel, rfl, by decide +kernel, by decide +kernel⟩
theorem c_all_lanes (Y : Fs P w K mg) : CallOk P w K mg base 5 "all_lanes" d_all_lanes ["row", "marks"] 2 m_all_lanes :=
  def_ok (d := d_all_lanes) (N := N_all_lanes) (ps := ["row", "marks"]) (p := 2) (m := b_all_lanes) (k := 4) (ow := ow_all_lanes) (Y.def_ 23) (Y.glo 42) S_all_lanes rfl rfl (by decide) (fun _ _ _ _ _ _ us hl => match us, hl with | [_, _], _ => rfl) (fun cdv A outer s H E T => (ss_one (s_ret (x_own1 T (c_many_lanes Y) (by decide) rfl (xa_cons (x_var (pv 0) rfl) (xa_cons (e_of (f_lst (xa_cons (x_var (pv 1) rfl) xa_nil))) xa_nil))))))
theorem S_first_marks : FnScope N_first_marks ["row"] sc_first_marks := ⟨rfl, rfl, rfl, by decide +kernel, rfl, by decide +kernel, by decide +kernel⟩
theorem c_first_marks (Y : Fs P w K mg) : CallOk P w K mg base 2 "first_marks" d_first_marks ["row"] 1 m_first_marks :=
  def_ok (d := d_first_marks) (N := N_first_marks) (ps := ["row"]) (p := 1) (m := b_first_marks) (k := 1) (ow := ow_first_marks) (Y.def_ 24) (Y.glo 43) S_first_marks rfl rfl (by decide) (fun _ _ _ _ _ _ us hl => match us, hl with | [_], _ => rfl) (fun cdv A outer s H E T => (ss_one (s_ret (x_t1 v_tuple n_tuple rfl (Y.free 6) hv_tuple (w_of (e_of (f_lc (own := [("_", 1)]) T (i_gr (i_seq (x_own1 T (c_mark_deeds Y) (by decide) rfl (xa_cons (x_var (pv 0) rfl) xa_nil)))) (blkOk_by (N := N_first_marks) (sc := sc_first_marks) (own := [("_", 1)]) (by decide +kernel)) (fun _ _ _ _ _ T1 => (g_nm (pg_name (i := 1) T1.nd rfl (Or.inl rfl)) rfl)) (fun _ _ _ _ _ T1 => ts_nil) (fun _ _ _ _ _ T1 => x_int) (by decide))))))))
theorem S_zero_steps : FnScope N_zero_steps ["row"] sc_zero_steps := ⟨rfl, rfl, rfl, by decide +kernel, rfl, by decide +kernel, by decide +kernel⟩
theorem c_zero_steps (Y : Fs P w K mg) : CallOk P w K mg base 6 "zero_steps" d_zero_steps ["row"] 1 m_zero_steps :=
  def_ok (d := d_zero_steps) (N := N_zero_steps) (ps := ["row"]) (p := 1) (m := b_zero_steps) (k := 5) (ow := ow_zero_steps) (oN := owS []) (oB := owS []) (Y.def_ 25) (Y.glo 44) S_zero_steps rfl rfl (by decide) (fun _ _ _ _ _ _ us hl => match us, hl with | [_], _ => rfl) (fun cdv A outer s H E T => (c_cons (o1 := owS []) (s_up (s_set (ps_set (i := 1) T.nd rfl (Or.inl rfl) (x_own1 T (c_first_marks Y) (by decide) rfl (xa_cons (x_var (pv 0) rfl) xa_nil))) rfl) (owS_le (by decide)) (by decide))
  (c_cons (o1 := owS [2]) (c_own (ps_set (i := 2) T.nd rfl (Or.inl rfl) (f_dicT T.dh (x_var (pv 1) rfl) x_int)) rfl (owS_add (by decide)))
  (c_cons (o1 := owS [2, 3]) (c_own (ps_set (i := 3) T.nd rfl (Or.inl rfl) (f_lst (xa_cons (x_var (pv 1) rfl) xa_nil))) rfl (owS_add (by decide)))
  (c_cons (o1 := owS [2, 3, 4]) (c_own (ps_set (i := 4) T.nd rfl (Or.inl rfl) (f_lst xa_nil)) rfl (owS_add (by decide)))
  (c_cons (o1 := owS [2, 3, 4]) (s_up (s_while T.po (t_cmp y_lt n_lt b_lt (w_of (x_b1 v_len n_len rfl (Y.free 1) hv_len (x_own (pv 4)))) (w_of (x_b1 v_len n_len rfl (Y.free 1) hv_len (x_own (pv 3)))) rfl) (c_cons (o1 := owS [2, 3, 4]) (s_up (s_gen (ps_asg (x_own1 T (c_all_lanes Y) (by decide) rfl (xa_cons (x_var (pv 0) rfl) (xa_cons (x_idx T.ix (x_own (pv 3)) (w_of (x_b1 v_len n_len rfl (Y.free 1) hv_len (x_own (pv 4))))) xa_nil))) (g_tup T.calm (gs_cons (g_nm (pg_name (i := 5) T.nd rfl (Or.inl rfl)) rfl) (gs_cons (g_nm (pg_name (i := 6) T.nd rfl (Or.inl rfl)) rfl) gs_nil))))) (owS_le (by decide)) (by decide))
  (c_cons (o1 := owS [2, 3, 4, 7]) (c_own (ps_set (i := 7) T.nd rfl (Or.inl rfl) (f_lst xa_nil)) rfl (owS_add (by decide)))
  (c_cons (o1 := owS [2, 3, 4, 7]) (s_up (s_for T.po T.calm (i_enum rfl (Y.free 4) (x_var (pv 6) rfl)) (g_tup T.calm (gs_cons (g_nm (pg_name (i := 8) T.nd rfl (Or.inl rfl)) rfl) (gs_cons (g_nm (pg_name (i := 9) T.nd rfl (Or.inl rfl)) rfl) gs_nil))) (c_cons (o1 := owS [2, 3, 4, 7]) (c_if (t_tst (w_of (x_bin y_and n_and (w_of (x_bin y_shr n_shr (w_of (x_idx T.ix (w_of (x_var (pv 5) rfl)) (w_of (x_attr (att_ok (Y.more 2)) (w_of (x_var (pv 0) rfl)))))) (w_of (x_var (pv 8) rfl)))) (w_of x_int))) (by intro _; rfl)) (c_one (s_up s_cnt (owS_le (by decide)) (by decide))) (c_cut (o1 := owS [2, 3, 4, 7]) c_nil (owS_le (by decide)) (by decide)))
  (c_cons (o1 := owS [2, 3, 4, 7]) (c_if (t_cmp T.nin n_notin b_notin (w_of (x_var (pv 9) rfl)) (x_own (pv 2)) rfl) (c_cons (o1 := owS [2, 3, 4, 7]) (s_up (s_setL (i := 2) (ps_asg (x_b1 v_len n_len rfl (Y.free 1) hv_len (x_own (pv 3))) (pg_sub (pv 2) (x_var (pv 9) rfl) T.st)) rfl) (owS_le (by decide)) (by decide))
  (c_one (s_up (s_app1 (i := 3) (pv 3) (x_var (pv 9) rfl) rfl) (owS_le (by decide)) (by decide)))) (c_cut (o1 := owS [2, 3, 4, 7]) c_nil (owS_le (by decide)) (by decide)))
  (c_one (s_up (s_app1 (i := 7) (pv 7) (x_tup (xa_cons (x_var (pv 8) rfl) (xa_cons (x_idx T.ix (x_own (pv 2)) (w_of (x_var (pv 9) rfl))) xa_nil))) rfl) (owS_le (by decide)) (by decide)))))) (owS_le (by decide)) (by decide))
  (c_cut (o1 := owS [2, 3, 4]) (c_one (s_up (s_app1 (i := 4) (pv 4) (x_var (pv 7) rfl) rfl) (owS_le (by decide)) (by decide))) (owS_le (by decide)) (by decide)))))) (owS_le (by decide)) (by decide))
  (c_cut (o1 := owS []) (c_one (s_up (s_ret (x_var (pv 4) rfl)) (owS_le (by decide)) (by decide))) (owS_le (by decide)) (by decide))))))))
theorem S_count_zeros : FnScope N_count_zeros ["row", "width"] sc_count_zeros := ⟨rfl, rfl, rfl, by decide +kernel, rfl, by decide +kernel, by decide +kernel⟩
theorem c_count_zeros (Y : Fs P w K mg) : CallOk P w K mg base 7 "count_zeros" d_count_zeros ["row", "width"] 2 m_count_zeros :=
  def_ok (d := d_count_zeros) (N := N_count_zeros) (ps := ["row", "width"]) (p := 2) (m := b_count_zeros) (k := 6) (ow := ow_count_zeros) (Y.def_ 26) (Y.glo 45) S_count_zeros rfl rfl (by decide) (fun _ _ _ _ _ _ us hl => match us, hl with | [_, _], _ => rfl) (fun cdv A outer s H E T => (ss_cons (s_if (t_not (t_tst (w_of (x_own1 T (c_is_number Y) (by decide) rfl (xa_cons (x_var (pv 1) rfl) xa_nil))) (by intro _; rfl))) (ss_one (s_raise T (er_InvalidNumber Y) (by decide) rfl (xa_cons (x_var (pv 1) rfl) xa_nil))) ss_nil)
  (ss_cons (s_set (s_f (s_lc0 (i := 2) (own := [("line", 5)]) T rfl rfl rfl (i_gr (i_seq (x_own1 T (c_zero_steps Y) (by decide) rfl (xa_cons (x_var (pv 0) rfl) xa_nil)))) (blkOk_by (N := N_count_zeros) (sc := sc_count_zeros) (own := [("line", 5)]) (by decide +kernel)) (fun _ _ _ _ _ T1 => (g_nm (pg_name (i := 5) T1.nd rfl (Or.inl rfl)) rfl)) (fun _ _ _ _ _ T1 => ts_nil) (fun _ _ _ _ _ T1 => (e_of (f_lc (own := [("_", 4), ("goal", 6)]) T1 (i_gr (i_seq (x_var (pv 5) rfl))) (blkOk_by (N := N_count_zeros) (own := [("_", 4), ("goal", 6)]) (by kernel_rfl)) (fun _ _ _ _ _ T2 => (g_tup T2.calm (gs_cons (g_nm (pg_name (i := 4) T2.nd rfl (Or.inl rfl)) rfl) (gs_cons (g_nm (pg_name (i := 6) T2.nd rfl (Or.inl rfl)) rfl) gs_nil)))) (fun _ _ _ _ _ T2 => ts_nil) (fun _ _ _ _ _ T2 => (x_var (pv 6) rfl)) (by decide)))) (by decide))) rfl)
  (ss_cons (s_set (ps_set (i := 3) T.nd rfl (Or.inr rfl) (e_of (f_lc (own := [("_", 4)]) T (i_gr (i_seq (x_var (pv 2) rfl))) (blkOk_by (N := N_count_zeros) (sc := sc_count_zeros) (own := [("_", 4)]) (by decide +kernel)) (fun _ _ _ _ _ T3 => (g_nm (pg_name (i := 4) T3.nd rfl (Or.inl rfl)) rfl)) (fun _ _ _ _ _ T3 => ts_nil) (fun _ _ _ _ _ T3 => x_int) (by decide)))) rfl)
  (ss_cons (s_for T.po T.calm (i_rng1 rfl (Y.free 11) (x_var (pv 1) rfl)) (g_nm (pg_name (i := 4) T.nd rfl (Or.inl rfl)) rfl) (ss_one (s_set (ps_set (i := 3) T.nd rfl (Or.inr rfl) (e_of (f_lc (own := [("line", 5)]) T (i_gr (i_seq (x_var (pv 2) rfl))) (blkOk_by (N := N_count_zeros) (sc := sc_count_zeros) (own := [("line", 5)]) (by decide +kernel)) (fun _ _ _ _ _ T4 => (g_nm (pg_name (i := 5) T4.nd rfl (Or.inl rfl)) rfl)) (fun _ _ _ _ _ T4 => ts_nil) (fun _ _ _ _ _ T4 => (x_b1 (v_sum T4.calm) n_sum rfl (Y.free 12) hv_sum (w_of (e_of (f_lc (own := [("goal", 6)]) T4 (i_gr (i_seq (x_var (pv 5) rfl))) (blkOk_by (N := N_count_zeros) (own := [("goal", 6)]) (by kernel_rfl)) (fun _ _ _ _ _ T5 => (g_nm (pg_name (i := 6) T5.nd rfl (Or.inl rfl)) rfl)) (fun _ _ _ _ _ T5 => ts_nil) (fun _ _ _ _ _ T5 => (x_idx T5.ix (w_of (x_var (pv 3) rfl)) (w_of (x_var (pv 6) rfl)))) (by decide)))))) (by decide)))) rfl)))
  (ss_one (s_ret (x_idx T.ix (w_of (x_var (pv 3) rfl)) (w_of x_int)))))))))
theorem S_first_zero : FnScope N_first_zero ["row", "width"] sc_first_zero := ⟨rfl, rfl, rfl, by decide +kernel, rfl, by decide +kernel, by decide +kernel⟩
theorem c_first_zero (Y : Fs P w K mg) : CallOk P w K mg base 7 "first_zero" d_first_zero ["row", "width"] 2 m_first_zero :=
  def_ok (d := d_first_zero) (N := N_first_zero) (ps := ["row", "width"]) (p := 2) (m := b_first_zero) (k := 6) (ow := ow_first_zero) (oN := owS []) (oB := owS []) (Y.def_ 27) (Y.glo 46) S_first_zero rfl rfl (by decide) (fun _ _ _ _ _ _ us hl => match us, hl with | [_, _], _ => rfl) (fun cdv A outer s H E T => (c_cons (o1 := owS []) (c_if (t_not (t_tst (w_of (x_own1 T (c_is_number Y) (by decide) rfl (xa_cons (x_var (pv 1) rfl) xa_nil))) (by intro _; rfl))) (c_one (s_up (s_raise T (er_InvalidNumber Y) (by decide) rfl (xa_cons (x_var (pv 1) rfl) xa_nil)) (owS_le (by decide)) (by decide))) (c_cut (o1 := owS []) c_nil (owS_le (by decide)) (by decide)))
  (c_cons (o1 := owS []) (s_up (s_set (ps_set (i := 2) T.nd rfl (Or.inl rfl) (x_own1 T (c_zero_steps Y) (by decide) rfl (xa_cons (x_var (pv 0) rfl) xa_nil))) rfl) (owS_le (by decide)) (by decide))
  (c_cons (o1 := owS [3]) (c_own (ps_set (i := 3) T.nd rfl (Or.inr rfl) (f_lst (xa_cons (e_of (f_lc (own := [("_", 4)]) T (i_gr (i_seq (x_var (pv 2) rfl))) (blkOk_by (N := N_first_zero) (sc := sc_first_zero) (own := [("_", 4)]) (by decide +kernel)) (fun _ _ _ _ _ T1 => (g_nm (pg_name (i := 4) T1.nd rfl (Or.inl rfl)) rfl)) (fun _ _ _ _ _ T1 => ts_nil) (fun _ _ _ _ _ T1 => x_bl) (by decide))) xa_nil))) rfl (owS_add (by decide)))
  (c_cons (o1 := owS [3]) (s_up (s_for T.po T.calm (i_rng1 rfl (Y.free 11) (x_var (pv 1) rfl)) (g_nm (pg_name (i := 4) T.nd rfl (Or.inl rfl)) rfl) (c_cons (o1 := owS [3]) (s_up (s_set (ps_set (i := 5) T.nd rfl (Or.inr rfl) (x_idx T.ix (x_own (pv 3)) (w_of (x_un y_neg n_neg (w_of x_int))))) rfl) (owS_le (by decide)) (by decide))
  (c_one (s_up (s_app1 (i := 3) (pv 3) (e_of (f_lc (own := [("line", 12)]) T (i_gr (i_seq (x_var (pv 2) rfl))) (blkOk_by (N := N_first_zero) (sc := sc_first_zero) (own := [("line", 12)]) (by decide +kernel)) (fun _ _ _ _ _ T2 => (g_nm (pg_name (i := 12) T2.nd rfl (Or.inl rfl)) rfl)) (fun _ _ _ _ _ T2 => ts_nil) (fun _ _ _ _ _ T2 => (x_b1 (v_any T2.calm) n_any rfl (Y.free 15) hv_any (w_of (e_of (f_lc (own := [("_", 4), ("goal", 13)]) T2 (i_gr (i_seq (x_var (pv 12) rfl))) (blkOk_by (N := N_first_zero) (own := [("_", 4), ("goal", 13)]) (by kernel_rfl)) (fun _ _ _ _ _ T3 => (g_tup T3.calm (gs_cons (g_nm (pg_name (i := 4) T3.nd rfl (Or.inl rfl)) rfl) (gs_cons (g_nm (pg_name (i := 13) T3.nd rfl (Or.inl rfl)) rfl) gs_nil)))) (fun _ _ _ _ _ T3 => ts_nil) (fun _ _ _ _ _ T3 => (x_idx T3.ix (w_of (x_var (pv 5) rfl)) (w_of (x_var (pv 13) rfl)))) (by decide)))))) (by decide))) rfl) (owS_le (by decide)) (by decide))))) (owS_le (by decide)) (by decide))
  (c_cut (o1 := owS []) (c_cons (o1 := owS []) (c_if (t_not (t_tst (w_of (x_idx T.ix (w_of (x_idx T.ix (w_of (x_var (pv 3) rfl)) (w_of (x_var (pv 1) rfl)))) (w_of x_int))) (by intro _; rfl))) (c_one (s_up (s_ret x_non) (owS_le (by decide)) (by decide))) (c_cut (o1 := owS []) c_nil (owS_le (by decide)) (by decide)))
  (c_cons (o1 := owS []) (s_up (s_set (ps_set (i := 6) T.nd rfl (Or.inl rfl) x_int) rfl) (owS_le (by decide)) (by decide))
  (c_cons (o1 := owS [7]) (c_own (ps_set (i := 7) T.nd rfl (Or.inl rfl) (f_lst xa_nil)) rfl (owS_add (by decide)))
  (c_cons (o1 := owS [7]) (s_up (s_for T.po T.calm (i_rng3 rfl (Y.free 11) (x_bin y_sub n_sub (w_of (x_var (pv 1) rfl)) (w_of x_int)) (x_un y_neg n_neg (w_of x_int)) (x_un y_neg n_neg (w_of x_int))) (g_nm (pg_name (i := 8) T.nd rfl (Or.inr rfl)) rfl) (c_cons (o1 := owS [7]) (s_up (s_set (s_f (s_lc0 (i := 9) (own := [("step", 11)]) T rfl rfl rfl (i_gr (i_seq (x_idx T.ix (w_of (x_var (pv 2) rfl)) (w_of (x_var (pv 6) rfl))))) (blkOk_by (N := N_first_zero) (sc := sc_first_zero) (own := [("step", 11)]) (by decide +kernel)) (fun _ _ _ _ _ T4 => (g_nm (pg_name (i := 11) T4.nd rfl (Or.inl rfl)) rfl)) (fun _ _ _ _ _ T4 => (ts_one (t_tst (w_of (x_idx T4.ix (w_of (x_idx T4.ix (w_of (x_var (pv 3) rfl)) (w_of (x_var (pv 8) rfl)))) (w_of (x_idx T4.ix (w_of (x_var (pv 11) rfl)) (w_of x_int))))) (by intro _; rfl)))) (fun _ _ _ _ _ T4 => (x_var (pv 11) rfl)) (by decide))) rfl) (owS_le (by decide)) (by decide))
  (c_cons (o1 := owS [7]) (s_up (s_gen (ps_asg (x_idx T.ix (w_of (x_var (pv 9) rfl)) (w_of x_int)) (g_tup T.calm (gs_cons (g_nm (pg_name (i := 10) T.nd rfl (Or.inl rfl)) rfl) (gs_cons (g_nm (pg_name (i := 6) T.nd rfl (Or.inl rfl)) rfl) gs_nil))))) (owS_le (by decide)) (by decide))
  (c_one (s_up (s_app1 (i := 7) (pv 7) (x_var (pv 10) rfl) rfl) (owS_le (by decide)) (by decide)))))) (owS_le (by decide)) (by decide))
  (c_cut (o1 := owS []) (c_one (s_up (s_ret (x_t1 v_tuple n_tuple rfl (Y.free 6) hv_tuple (w_of (x_var (pv 7) rfl)))) (owS_le (by decide)) (by decide))) (owS_le (by decide)) (by decide)))))) (owS_le (by decide)) (by decide)))))))
theorem S__law_asked : FnScope N__law_asked ["row", "shape", "table", "width"] sc__law_asked := ⟨rfl, rfl, rfl, by decide +kernel, rfl, by decide +kernel, by decide +kernel⟩
theorem c_law_asked (Y : Fs P w K mg) : CallOk P w K mg base 8 "_law_asked" d__law_asked ["row", "shape", "table", "width"] 4 m_law_asked :=
  def_ok (d := d__law_asked) (N := N__law_asked) (ps := ["row", "shape", "table", "width"]) (p := 4) (m := b__law_asked) (k := 7) (ow := ow__law_asked) (Y.def_ 28) (Y.glo 47) S__law_asked rfl rfl (by decide) (fun _ _ _ _ _ _ us hl => match us, hl with | [_, _, _, _], _ => rfl) (fun cdv A outer s H E T => (ss_cons (s_set (ps_set (i := 4) T.nd rfl (Or.inl rfl) (x_own1 T (c_law_zeros Y) (by decide) rfl (xa_cons (x_var (pv 2) rfl) (xa_cons (x_var (pv 3) rfl) xa_nil)))) rfl)
  (ss_cons (s_set (ps_set (i := 5) T.nd rfl (Or.inl rfl) (x_own1 T (c_law_first Y) (by decide) rfl (xa_cons (x_var (pv 2) rfl) (xa_cons (x_var (pv 3) rfl) xa_nil)))) rfl)
  (ss_cons (s_for T.po T.calm (i_rng1 rfl (Y.free 11) x_int) (g_nm (pg_name (i := 6) T.nd rfl (Or.inl rfl)) rfl) (ss_cons (s_set (ps_set (i := 7) T.nd rfl (Or.inl rfl) (x_own1 T (c_count_zeros Y) (by decide) rfl (xa_cons (x_var (pv 0) rfl) (xa_cons (x_var (pv 3) rfl) xa_nil)))) rfl)
  (ss_cons (s_if (PW.pt (t_or (t_not (t_tst (w_of (x_own1 T (c_law_whole Y) (by decide) rfl (xa_cons (x_var (pv 7) rfl) xa_nil))) (by intro _; rfl))) (t_or (t_cmp T.ne n_ne b_ne (w_of (x_var (pv 7) rfl)) (w_of (x_var (pv 4) rfl)) rfl) (t_or1 (t_not (t_tst (w_of (x_own1 T (c_law_stays Y) (by decide) rfl (xa_cons (x_var (pv 0) rfl) (xa_cons (x_idx T.ix (w_of (x_var (pv 1) rfl)) (w_of x_int)) (xa_cons (x_idx T.ix (w_of (x_var (pv 1) rfl)) (w_of x_int)) (xa_cons (x_idx T.ix (w_of (x_var (pv 1) rfl)) (w_of x_int)) xa_nil)))))) (by intro _; rfl))))))) (ss_one (s_ret x_bl)) ss_nil)
  (ss_one (s_if (PW.pt (t_or (t_not (t_tst (w_of (x_own1 T (c_law_is_reading Y) (by decide) rfl (xa_cons (x_own1 T (c_first_zero Y) (by decide) rfl (xa_cons (x_var (pv 0) rfl) (xa_cons (x_var (pv 3) rfl) xa_nil))) (xa_cons (x_var (pv 5) rfl) xa_nil)))) (by intro _; rfl))) (t_or1 (t_not (t_tst (w_of (x_own1 T (c_law_stays Y) (by decide) rfl (xa_cons (x_var (pv 0) rfl) (xa_cons (x_idx T.ix (w_of (x_var (pv 1) rfl)) (w_of x_int)) (xa_cons (x_idx T.ix (w_of (x_var (pv 1) rfl)) (w_of x_int)) (xa_cons (x_idx T.ix (w_of (x_var (pv 1) rfl)) (w_of x_int)) xa_nil)))))) (by intro _; rfl)))))) (ss_one (s_ret x_bl)) ss_nil)))))
  (ss_one (s_ret x_bl))))))
theorem S__law_pick : FnScope N__law_pick ["pool", "many"] sc__law_pick := ⟨rfl, rfl, rfl, by decide +kernel, rfl, by decide +kernel, by decide +kernel⟩
theorem c_law_pick (Y : Fs P w K mg) : CallOk P w K mg base 1 "_law_pick" d__law_pick ["pool", "many"] 2 m_law_pick :=
  def_okP (d := d__law_pick) (N := N__law_pick) (ps := ["pool", "many"]) (kk := false) (m := b__law_pick) (k := 0) (oN := ow__law_pick) (oB := ow__law_pick) (Y.def_ 29) (Y.glo 48) S__law_pick rfl rfl draws_pick (fun _ _ _ _ _ _ us hl => match us, hl with | [_, _], _ => rfl) (fun cdv A outer s H E T => (ss_cons (s_if (t_cmp y_gt n_gt b_gt (w_of (x_idx T.ix (x_own (pv 0)) (w_of x_int))) (w_of x_int) rfl) (ss_cons (s_set (ps_set (i := 2) T.nd rfl (Or.inl rfl) (x_bin y_mod n_mod (w_of (x_t1 v_int n_int rfl (Y.free 0) hv_int (w_of (x_idx T.ix (x_own (pv 0)) (w_of x_int))))) (w_of (x_var (pv 1) rfl)))) rfl)
  (ss_cons (s_setL (i := 0) (ps_asg (x_bin y_fdiv n_fdiv (w_of (x_idx T.ix (x_own (pv 0)) (w_of x_int))) (w_of (x_var (pv 1) rfl))) (pg_sub (pv 0) x_int T.st)) rfl)
  (ss_one (s_retB (x_var (pv 2) rfl) rfl)))) ss_nil)
  (ss_cons (s_set (ps_set (i := 3) T.nd rfl (Or.inl rfl) x_int) rfl)
  (ss_cons (s_if (t_cmp y_lt n_lt b_lt (w_of (x_idx T.ix (x_own (pv 0)) (w_of x_int))) (w_of (x_b1 v_lenC n_lenC rfl (Y.free 1) hv_len (w_of (x_idx T.ix (x_own (pv 0)) (w_of x_int))))) rfl) (ss_cons (s_set (ps_set (i := 3) T.nd rfl (Or.inl rfl) (x_idxC T.ixC (w_of (x_idx T.ix (x_own (pv 0)) (w_of x_int))) (w_of (x_idx T.ix (x_own (pv 0)) (w_of x_int))))) rfl)
  (ss_one (s_setL (i := 0) (ps_asg (x_bin y_add n_add (w_of (x_idx T.ix (x_own (pv 0)) (w_of x_int))) (w_of x_int)) (pg_sub (pv 0) x_int T.st)) rfl))) ss_nil)
  (ss_cons (s_if (t_cmp y_gt n_gt b_gt (w_of (x_var (pv 3) rfl)) (w_of (x_bin y_add n_add (w_of (x_bin y_pow n_pow (w_of x_int) (w_of x_int))) (w_of x_int))) rfl) (ss_cons (s_set (ps_set (i := 3) T.nd rfl (Or.inl rfl) (x_bin y_sub n_sub (w_of (x_var (pv 3) rfl)) (w_of (x_bin y_pow n_pow (w_of x_int) (w_of x_int))))) rfl)
  (ss_cons (s_setL (i := 0) (ps_asg (x_bin y_fdiv n_fdiv (w_of (x_var (pv 3) rfl)) (w_of (x_var (pv 1) rfl))) (pg_sub (pv 0) x_int T.st)) rfl)
  (ss_one (s_retB (x_bin y_mod n_mod (w_of (x_t1 v_int n_int rfl (Y.free 0) hv_int (w_of (x_var (pv 3) rfl)))) (w_of (x_var (pv 1) rfl))) rfl)))) ss_nil)
  (ss_cons (s_setL (i := 0) (ps_asg (x_bin y_mod n_mod (w_of (x_t1 v_int n_int rfl (Y.free 0) hv_int (w_of (x_bin y_add n_add (w_of (x_bin y_add n_add (w_of (x_bin y_mul n_mul (w_of (x_idx T.ix (x_own (pv 0)) (w_of x_int))) (w_of x_int))) (w_of (x_bin y_mul n_mul (w_of (x_var (pv 3) rfl)) (w_of x_int))))) (w_of x_int))))) (w_of x_int)) (pg_sub (pv 0) x_int T.st)) rfl)
  (ss_one (s_retB (x_bin y_mod n_mod (w_of (x_bin y_fdiv n_fdiv (w_of (x_bin y_mod n_mod (w_of (x_t1 v_int n_int rfl (Y.free 0) hv_int (w_of (x_bin y_add n_add (w_of (x_bin y_mul n_mul (w_of (x_idx T.ix (x_own (pv 0)) (w_of x_int))) (w_of (x_idx T.ix (x_own (pv 0)) (w_of x_int))))) (w_of (x_bin y_mul n_mul (w_of (x_idx T.ix (x_own (pv 0)) (w_of x_int))) (w_of x_int))))))) (w_of x_int))) (w_of x_int))) (w_of (x_var (pv 1) rfl))) rfl))))))))
theorem S__law_deed : FnScope N__law_deed ["pool", "values"] sc__law_deed := ⟨rfl, rfl, rfl, by decide +kernel, rfl, by decide +kernel, by decide +kernel⟩
theorem c_law_deed (Y : Fs P w K mg) : CallOk P w K mg base 2 "_law_deed" d__law_deed ["pool", "values"] 2 m_law_deed :=
  def_ok (d := d__law_deed) (N := N__law_deed) (ps := ["pool", "values"]) (p := 2) (m := b__law_deed) (k := 1) (ow := ow__law_deed) (oN := owS []) (oB := owS []) (Y.def_ 30) (Y.glo 49) S__law_deed rfl rfl (by decide) (fun _ _ _ _ _ _ us hl => match us, hl with | [_, _], _ => rfl) (fun cdv A outer s H E T => (c_cons (o1 := owS []) (s_up (s_set (ps_set (i := 2) T.nd rfl (Or.inl rfl) (x_tup (xa_cons (x_str (s := "and")) (xa_cons (x_str (s := "add")) (xa_cons (x_str (s := "sub")) (xa_cons (x_str (s := "minus")) (xa_cons (x_str (s := "shift")) (xa_cons (x_str (s := "count")) (xa_cons (x_str (s := "and")) (xa_cons (x_str (s := "or")) (xa_cons (x_str (s := "xor")) (xa_cons (x_str (s := "not")) (xa_cons (x_str (s := "zero")) (xa_cons (x_str (s := "ones")) xa_nil)))))))))))))) rfl) (owS_le (by decide)) (by decide))
  (c_cons (o1 := owS []) (s_up (s_set (ps_set (i := 3) T.nd rfl (Or.inl rfl) (x_idx T.ix (w_of (x_var (pv 2) rfl)) (w_of (x_own1 T (c_law_pick Y) (by decide) rfl (xa_cons (x_var (pv 0) rfl) (xa_cons x_int xa_nil)))))) rfl) (owS_le (by decide)) (by decide))
  (c_cons (o1 := owS []) (c_if (t_cmp T.inn n_in b_in (w_of (x_var (pv 3) rfl)) (w_of (x_tup (xa_cons (x_str (s := "zero")) (xa_cons (x_str (s := "ones")) xa_nil)))) rfl) (c_one (s_up (s_ret (x_tup (xa_cons (x_var (pv 3) rfl) xa_nil))) (owS_le (by decide)) (by decide))) (c_cut (o1 := owS []) c_nil (owS_le (by decide)) (by decide)))
  (c_cons (o1 := owS []) (s_up (s_set (ps_set (i := 4) T.nd rfl (Or.inl rfl) (x_own1 T (c_law_pick Y) (by decide) rfl (xa_cons (x_var (pv 0) rfl) (xa_cons (x_var (pv 1) rfl) xa_nil)))) rfl) (owS_le (by decide)) (by decide))
  (c_cons (o1 := owS []) (c_if (t_cmp T.eq n_eq b_eq (w_of (x_own1 T (c_law_pick Y) (by decide) rfl (xa_cons (x_var (pv 0) rfl) (xa_cons x_int xa_nil)))) (w_of x_int) rfl) (c_one (s_up (s_set (ps_set (i := 4) T.nd rfl (Or.inl rfl) (x_bin y_sub n_sub (w_of (x_var (pv 1) rfl)) (w_of x_int))) rfl) (owS_le (by decide)) (by decide))) (c_cut (o1 := owS []) c_nil (owS_le (by decide)) (by decide)))
  (c_cons (o1 := owS []) (c_if (t_cmp T.inn n_in b_in (w_of (x_var (pv 3) rfl)) (w_of (x_tup (xa_cons (x_str (s := "not")) (xa_cons (x_str (s := "shift")) (xa_cons (x_str (s := "minus")) xa_nil))))) rfl) (c_one (s_up (s_ret (x_tup (xa_cons (x_var (pv 3) rfl) (xa_cons (x_var (pv 4) rfl) xa_nil)))) (owS_le (by decide)) (by decide))) (c_cut (o1 := owS []) c_nil (owS_le (by decide)) (by decide)))
  (c_cons (o1 := owS []) (c_if (t_cmp T.eq n_eq b_eq (w_of (x_var (pv 3) rfl)) (w_of (x_str (s := "count"))) rfl) (c_cons (o1 := owS []) (s_up (s_set (ps_set (i := 5) T.nd rfl (Or.inl rfl) (x_idx T.ix (w_of (x_tup (xa_cons x_int (xa_cons x_int (xa_cons x_int xa_nil))))) (w_of (x_own1 T (c_law_pick Y) (by decide) rfl (xa_cons (x_var (pv 0) rfl) (xa_cons x_int xa_nil)))))) rfl) (owS_le (by decide)) (by decide))
  (c_cons (o1 := owS []) (s_up (s_set (ps_set (i := 6) T.nd rfl (Or.inl rfl) (x_own1 T (c_law_pick Y) (by decide) rfl (xa_cons (x_var (pv 0) rfl) (xa_cons (x_var (pv 5) rfl) xa_nil)))) rfl) (owS_le (by decide)) (by decide))
  (c_cons (o1 := owS [7]) (c_own (ps_set (i := 7) T.nd rfl (Or.inl rfl) (f_lst (xa_cons (x_var (pv 4) rfl) xa_nil))) rfl (owS_add (by decide)))
  (c_cons (o1 := owS [7]) (s_up (s_for T.po T.calm (i_rng1 rfl (Y.free 11) (x_own1 T (c_law_pick Y) (by decide) rfl (xa_cons (x_var (pv 0) rfl) (xa_cons x_int xa_nil)))) (g_nm (pg_name (i := 8) T.nd rfl (Or.inl rfl)) rfl) (c_one (s_up (s_app1 (i := 7) (pv 7) (x_own1 T (c_law_pick Y) (by decide) rfl (xa_cons (x_var (pv 0) rfl) (xa_cons (x_var (pv 1) rfl) xa_nil))) rfl) (owS_le (by decide)) (by decide)))) (owS_le (by decide)) (by decide))
  (c_cut (o1 := owS []) (c_one (s_up (s_ret (x_tup (xa_cons (x_var (pv 3) rfl) (xa_cons (x_var (pv 5) rfl) (xa_cons (x_var (pv 6) rfl) (xa_cons (x_t1 v_tuple n_tuple rfl (Y.free 6) hv_tuple (w_of (x_var (pv 7) rfl))) xa_nil)))))) (owS_le (by decide)) (by decide))) (owS_le (by decide)) (by decide)))))) (c_cut (o1 := owS []) c_nil (owS_le (by decide)) (by decide)))
  (c_one (s_up (s_ret (x_tup (xa_cons (x_var (pv 3) rfl) (xa_cons (x_var (pv 4) rfl) (xa_cons (x_own1 T (c_law_pick Y) (by decide) rfl (xa_cons (x_var (pv 0) rfl) (xa_cons (x_var (pv 1) rfl) xa_nil))) xa_nil))))) (owS_le (by decide)) (by decide)))))))))))
theorem S__law_weight : FnScope N__law_weight ["deed"] sc__law_weight := ⟨rfl, rfl, rfl, by decide +kernel, rfl, by decide +kernel, by decide +kernel⟩
theorem c_law_weight (Y : Fs P w K mg) : CallOk P w K mg base 1 "_law_weight" d__law_weight ["deed"] 1 m_law_weight :=
  def_ok (d := d__law_weight) (N := N__law_weight) (ps := ["deed"]) (p := 1) (m := b__law_weight) (k := 0) (ow := ow__law_weight) (Y.def_ 31) (Y.glo 50) S__law_weight rfl rfl (by decide) (fun _ _ _ _ _ _ us hl => match us, hl with | [_], _ => rfl) (fun cdv A outer s H E T => (ss_cons (s_if (t_cmp T.eq n_eq b_eq (w_of (x_idx T.ix (w_of (x_var (pv 0) rfl)) (w_of x_int))) (w_of (x_str (s := "count"))) rfl) (ss_one (s_ret (x_idx T.ix (w_of (x_var (pv 0) rfl)) (w_of x_int)))) ss_nil)
  (ss_cons (s_if (t_cmp T.inn n_in b_in (w_of (x_idx T.ix (w_of (x_var (pv 0) rfl)) (w_of x_int))) (w_of (x_tup (xa_cons (x_str (s := "shift")) (xa_cons (x_str (s := "minus")) (xa_cons (x_str (s := "add")) (xa_cons (x_str (s := "sub")) xa_nil)))))) rfl) (ss_one (s_ret x_int)) ss_nil)
  (ss_one (s_ret x_int)))))
theorem S__law_deeds : FnScope N__law_deeds ["pool", "inputs", "size", "room"] sc__law_deeds := ⟨rfl, rfl, rfl, by decide +kernel, rfl, by decide +kernel, by decide +kernel⟩
theorem c_law_deeds (Y : Fs P w K mg) : CallOk P w K mg base 3 "_law_deeds" d__law_deeds ["pool", "inputs", "size", "room"] 4 m_law_deeds :=
  def_ok (d := d__law_deeds) (N := N__law_deeds) (ps := ["pool", "inputs", "size", "room"]) (p := 4) (m := b__law_deeds) (k := 2) (ow := ow__law_deeds) (oN := owS []) (oB := owS []) (Y.def_ 32) (Y.glo 51) S__law_deeds rfl rfl (by decide) (fun _ _ _ _ _ _ us hl => match us, hl with | [_, _, _, _], _ => rfl) (fun cdv A outer s H E T => (c_cons (o1 := owS [4]) (c_own (ps_set (i := 4) T.nd rfl (Or.inl rfl) (f_lst xa_nil)) rfl (owS_add (by decide)))
  (c_cons (o1 := owS [4]) (s_up (s_for T.po T.calm (i_rng1 rfl (Y.free 11) (x_var (pv 2) rfl)) (g_nm (pg_name (i := 5) T.nd rfl (Or.inl rfl)) rfl) (c_cons (o1 := owS [4]) (s_up (s_set (ps_set (i := 6) T.nd rfl (Or.inl rfl) (x_own1 T (c_law_deed Y) (by decide) rfl (xa_cons (x_var (pv 0) rfl) (xa_cons (x_bin y_add n_add (w_of (x_var (pv 1) rfl)) (w_of (x_var (pv 5) rfl))) xa_nil)))) rfl) (owS_le (by decide)) (by decide))
  (c_cons (o1 := owS [4]) (c_if (t_cmp y_gt n_gt b_gt (w_of (x_own1 T (c_law_weight Y) (by decide) rfl (xa_cons (x_var (pv 6) rfl) xa_nil))) (w_of (x_var (pv 3) rfl)) rfl) (c_one (s_up (s_set (ps_set (i := 6) T.nd rfl (Or.inl rfl) (x_tup (xa_cons (x_idx T.ix (w_of (x_tup (xa_cons (x_str (s := "and")) (xa_cons (x_str (s := "xor")) xa_nil)))) (w_of (x_own1 T (c_law_pick Y) (by decide) rfl (xa_cons (x_var (pv 0) rfl) (xa_cons x_int xa_nil))))) (xa_cons (x_own1 T (c_law_pick Y) (by decide) rfl (xa_cons (x_var (pv 0) rfl) (xa_cons (x_bin y_add n_add (w_of (x_var (pv 1) rfl)) (w_of (x_var (pv 5) rfl))) xa_nil))) (xa_cons (x_bin y_sub n_sub (w_of (x_bin y_add n_add (w_of (x_var (pv 1) rfl)) (w_of (x_var (pv 5) rfl)))) (w_of x_int)) xa_nil))))) rfl) (owS_le (by decide)) (by decide))) (c_cut (o1 := owS [4]) c_nil (owS_le (by decide)) (by decide)))
  (c_cons (o1 := owS [4]) (s_up (s_set (ps_set (i := 3) T.nd rfl (Or.inl rfl) (x_bin y_fdiv n_fdiv (w_of (x_var (pv 3) rfl)) (w_of (x_own1 T (c_law_weight Y) (by decide) rfl (xa_cons (x_var (pv 6) rfl) xa_nil))))) rfl) (owS_le (by decide)) (by decide))
  (c_one (s_up (s_app1 (i := 4) (pv 4) (x_var (pv 6) rfl) rfl) (owS_le (by decide)) (by decide))))))) (owS_le (by decide)) (by decide))
  (c_cut (o1 := owS []) (c_one (s_up (s_ret (x_var (pv 4) rfl)) (owS_le (by decide)) (by decide))) (owS_le (by decide)) (by decide)))))
theorem S__law_mark : FnScope N__law_mark ["name", "mark", "one", "two"] sc__law_mark := ⟨rfl, rfl, rfl, by decide +kernel, rfl, by decide +kernel, by decide +kernel⟩
theorem c_law_mark (Y : Fs P w K mg) : CallOk P w K mg base 1 "_law_mark" d__law_mark ["name", "mark", "one", "two"] 4 m_law_mark :=
  def_ok (d := d__law_mark) (N := N__law_mark) (ps := ["name", "mark", "one", "two"]) (p := 4) (m := b__law_mark) (k := 0) (ow := ow__law_mark) (Y.def_ 33) (Y.glo 52) S__law_mark rfl rfl (by decide) (fun _ _ _ _ _ _ us hl => match us, hl with | [_, _, _, _], _ => rfl) (fun cdv A outer s H E T => (ss_cons (s_if (t_cmp T.eq n_eq b_eq (w_of (x_var (pv 0) rfl)) (w_of (x_str (s := "shift"))) rfl) (ss_one (s_ret (x_tup (xa_cons (x_var (pv 1) rfl) (xa_cons (x_var (pv 2) rfl) xa_nil))))) ss_nil)
  (ss_cons (s_set (ps_set (i := 4) T.nd rfl (Or.inl rfl) (x_bin y_add n_add (w_of (x_bin y_add n_add (w_of (x_var (pv 2) rfl)) (w_of (x_var (pv 3) rfl)))) (w_of (x_var (pv 1) rfl)))) rfl)
  (ss_cons (s_if (t_cmp T.eq n_eq b_eq (w_of (x_var (pv 0) rfl)) (w_of (x_str (s := "minus"))) rfl) (ss_one (s_ret (x_tup (xa_cons (x_bin y_and n_and (w_of (x_var (pv 4) rfl)) (w_of x_int)) (xa_cons (x_t1 v_int n_int rfl (Y.free 0) hv_int (w_of (x_cmp y_ge n_ge (w_of (x_var (pv 4) rfl)) (w_of x_int) rfl))) xa_nil))))) ss_nil)
  (ss_cons (s_if (t_cmp T.eq n_eq b_eq (w_of (x_var (pv 0) rfl)) (w_of (x_str (s := "add"))) rfl) (ss_one (s_ret (x_tup (xa_cons (x_bin y_and n_and (w_of (x_var (pv 4) rfl)) (w_of x_int)) (xa_cons (x_t1 v_int n_int rfl (Y.free 0) hv_int (w_of (x_cmp y_ge n_ge (w_of (x_var (pv 4) rfl)) (w_of x_int) rfl))) xa_nil))))) ss_nil)
  (ss_one (s_ret (x_tup (xa_cons (x_bin y_and n_and (w_of (x_var (pv 4) rfl)) (w_of x_int)) (xa_cons (x_t1 v_int n_int rfl (Y.free 0) hv_int (w_of (x_cmp y_lt n_lt (w_of (x_var (pv 2) rfl)) (w_of (x_bin y_add n_add (w_of (x_var (pv 3) rfl)) (w_of (x_var (pv 1) rfl)))) rfl))) xa_nil))))))))))
theorem S__law_step : FnScope N__law_step ["inputs", "deeds", "marks", "letter"] sc__law_step := ⟨rfl, rfl, rfl, by decide +kernel, rfl, by decide +kernel, by decide +kernel⟩
theorem c_law_step (Y : Fs P w K mg) : CallOk P w K mg base 2 "_law_step" d__law_step ["inputs", "deeds", "marks", "letter"] 4 m_law_step :=
  def_ok (d := d__law_step) (N := N__law_step) (ps := ["inputs", "deeds", "marks", "letter"]) (p := 4) (m := b__law_step) (k := 1) (ow := ow__law_step) (oN := owS []) (oB := owS []) (Y.def_ 34) (Y.glo 53) S__law_step rfl rfl (by decide) (fun _ _ _ _ _ _ us hl => match us, hl with | [_, _, _, _], _ => rfl) (fun cdv A outer s H E T => (c_cons (o1 := owS [4]) (c_own (ps_set (i := 4) T.nd rfl (Or.inr rfl) (f_lc (own := [("i", 11)]) T (i_gr (i_rng1 rfl (Y.free 11) (x_var (pv 0) rfl))) (blkOk_by (N := N__law_step) (sc := sc__law_step) (own := [("i", 11)]) (by decide +kernel)) (fun _ _ _ _ _ T1 => (g_nm (pg_name (i := 11) T1.nd rfl (Or.inl rfl)) rfl)) (fun _ _ _ _ _ T1 => ts_nil) (fun _ _ _ _ _ T1 => (x_bin y_and n_and (w_of (x_bin y_shr n_shr (w_of (x_var (pv 3) rfl)) (w_of (x_var (pv 11) rfl)))) (w_of x_int))) (by decide))) rfl (owS_add (by decide)))
  (c_cons (o1 := owS [4, 5]) (c_own (ps_set (i := 5) T.nd rfl (Or.inl rfl) (f_lst xa_nil)) rfl (owS_add (by decide)))
  (c_cons (o1 := owS [4, 5]) (s_up (s_for T.po T.calm (i_seq (x_var (pv 1) rfl)) (g_nm (pg_name (i := 6) T.nd rfl (Or.inl rfl)) rfl) (c_cons (o1 := owS [4, 5]) (s_up (s_set (ps_set (i := 7) T.nd rfl (Or.inl rfl) (x_idx T.ix (w_of (x_var (pv 6) rfl)) (w_of x_int))) rfl) (owS_le (by decide)) (by decide))
  (c_one (c_if (t_cmp T.eq n_eq b_eq (w_of (x_var (pv 7) rfl)) (w_of (x_str (s := "not"))) rfl) (c_one (s_up (s_app1 (i := 4) (pv 4) (x_bin y_sub n_sub (w_of x_int) (w_of (x_idx T.ix (x_own (pv 4)) (w_of (x_idx T.ix (w_of (x_var (pv 6) rfl)) (w_of x_int)))))) rfl) (owS_le (by decide)) (by decide))) (c_one (c_if (t_cmp T.eq n_eq b_eq (w_of (x_var (pv 7) rfl)) (w_of (x_str (s := "and"))) rfl) (c_one (s_up (s_app1 (i := 4) (pv 4) (x_bin y_and n_and (w_of (x_idx T.ix (x_own (pv 4)) (w_of (x_idx T.ix (w_of (x_var (pv 6) rfl)) (w_of x_int))))) (w_of (x_idx T.ix (x_own (pv 4)) (w_of (x_idx T.ix (w_of (x_var (pv 6) rfl)) (w_of x_int)))))) rfl) (owS_le (by decide)) (by decide))) (c_one (c_if (t_cmp T.eq n_eq b_eq (w_of (x_var (pv 7) rfl)) (w_of (x_str (s := "or"))) rfl) (c_one (s_up (s_app1 (i := 4) (pv 4) (x_bin y_or n_or (w_of (x_idx T.ix (x_own (pv 4)) (w_of (x_idx T.ix (w_of (x_var (pv 6) rfl)) (w_of x_int))))) (w_of (x_idx T.ix (x_own (pv 4)) (w_of (x_idx T.ix (w_of (x_var (pv 6) rfl)) (w_of x_int)))))) rfl) (owS_le (by decide)) (by decide))) (c_one (c_if (t_cmp T.eq n_eq b_eq (w_of (x_var (pv 7) rfl)) (w_of (x_str (s := "xor"))) rfl) (c_one (s_up (s_app1 (i := 4) (pv 4) (x_bin y_xor n_xor (w_of (x_idx T.ix (x_own (pv 4)) (w_of (x_idx T.ix (w_of (x_var (pv 6) rfl)) (w_of x_int))))) (w_of (x_idx T.ix (x_own (pv 4)) (w_of (x_idx T.ix (w_of (x_var (pv 6) rfl)) (w_of x_int)))))) rfl) (owS_le (by decide)) (by decide))) (c_one (c_if (t_cmp T.inn n_in b_in (w_of (x_var (pv 7) rfl)) (w_of (x_tup (xa_cons (x_str (s := "zero")) (xa_cons (x_str (s := "ones")) xa_nil)))) rfl) (c_one (s_up (s_app1 (i := 4) (pv 4) (x_t1 v_int n_int rfl (Y.free 0) hv_int (w_of (x_cmp T.eq n_eq (w_of (x_var (pv 7) rfl)) (w_of (x_str (s := "ones"))) rfl))) rfl) (owS_le (by decide)) (by decide))) (c_one (c_if (t_cmp T.eq n_eq b_eq (w_of (x_var (pv 7) rfl)) (w_of (x_str (s := "count"))) rfl) (c_cons (o1 := owS [4, 5]) (s_up (s_set (ps_set (i := 8) T.nd rfl (Or.inl rfl) (x_idx T.ix (w_of (x_var (pv 2) rfl)) (w_of (x_b1 v_len n_len rfl (Y.free 1) hv_len (x_own (pv 5)))))) rfl) (owS_le (by decide)) (by decide))
  (c_cons (o1 := owS [4, 5]) (s_up (s_app1 (i := 4) (pv 4) (x_t1 v_int n_int rfl (Y.free 0) hv_int (w_of (x_cmp T.eq n_eq (w_of (x_var (pv 8) rfl)) (w_of (x_idx T.ix (w_of (x_var (pv 6) rfl)) (w_of x_int))) rfl))) rfl) (owS_le (by decide)) (by decide))
  (c_one (s_up (s_app1 (i := 5) (pv 5) (x_bin y_mod n_mod (w_of (x_t1 v_int n_int rfl (Y.free 0) hv_int (w_of (x_bin y_add n_add (w_of (x_var (pv 8) rfl)) (w_of (x_b1 (v_sum T.calm) n_sum rfl (Y.free 12) hv_sum (w_of (e_of (f_lc (own := [("part", 12)]) T (i_gr (i_seq (x_idx T.ix (w_of (x_var (pv 6) rfl)) (w_of x_int)))) (blkOk_by (N := N__law_step) (sc := sc__law_step) (own := [("part", 12)]) (by decide +kernel)) (fun _ _ _ _ _ T2 => (g_nm (pg_name (i := 12) T2.nd rfl (Or.inl rfl)) rfl)) (fun _ _ _ _ _ T2 => ts_nil) (fun _ _ _ _ _ T2 => (x_idx T2.ix (x_own (pv 4)) (w_of (x_var (pv 12) rfl)))) (by decide)))))))))) (w_of (x_idx T.ix (w_of (x_var (pv 6) rfl)) (w_of x_int)))) rfl) (owS_le (by decide)) (by decide))))) (c_cons (o1 := owS [4, 5]) (s_up (s_set (ps_set (i := 9) T.nd rfl (Or.inl rfl) x_int) rfl) (owS_le (by decide)) (by decide))
  (c_cons (o1 := owS [4, 5]) (c_if (t_cmp y_gt n_gt b_gt (w_of (x_b1 v_len n_len rfl (Y.free 1) hv_len (w_of (x_var (pv 6) rfl)))) (w_of x_int) rfl) (c_one (s_up (s_set (ps_set (i := 9) T.nd rfl (Or.inl rfl) (x_idx T.ix (x_own (pv 4)) (w_of (x_idx T.ix (w_of (x_var (pv 6) rfl)) (w_of x_int))))) rfl) (owS_le (by decide)) (by decide))) (c_cut (o1 := owS [4, 5]) c_nil (owS_le (by decide)) (by decide)))
  (c_cons (o1 := owS [4, 5]) (s_up (s_gen (ps_asg (x_own1 T (c_law_mark Y) (by decide) rfl (xa_cons (x_var (pv 7) rfl) (xa_cons (x_idx T.ix (w_of (x_var (pv 2) rfl)) (w_of (x_b1 v_len n_len rfl (Y.free 1) hv_len (x_own (pv 5))))) (xa_cons (x_idx T.ix (x_own (pv 4)) (w_of (x_idx T.ix (w_of (x_var (pv 6) rfl)) (w_of x_int)))) (xa_cons (x_var (pv 9) rfl) xa_nil))))) (g_tup T.calm (gs_cons (g_nm (pg_name (i := 10) T.nd rfl (Or.inl rfl)) rfl) (gs_cons (g_nm (pg_name (i := 8) T.nd rfl (Or.inl rfl)) rfl) gs_nil))))) (owS_le (by decide)) (by decide))
  (c_cons (o1 := owS [4, 5]) (s_up (s_app1 (i := 4) (pv 4) (x_var (pv 10) rfl) rfl) (owS_le (by decide)) (by decide))
  (c_one (s_up (s_app1 (i := 5) (pv 5) (x_var (pv 8) rfl) rfl) (owS_le (by decide)) (by decide))))))))))))))))))))) (owS_le (by decide)) (by decide))
  (c_cut (o1 := owS []) (c_one (s_up (s_ret (x_tup (xa_cons (x_var (pv 4) rfl) (xa_cons (x_t1 v_tuple n_tuple rfl (Y.free 6) hv_tuple (w_of (x_var (pv 5) rfl))) xa_nil)))) (owS_le (by decide)) (by decide))) (owS_le (by decide)) (by decide))))))
theorem S__law_leads : FnScope N__law_leads ["inputs", "deeds", "out", "room"] sc__law_leads := ⟨rfl, rfl, rfl, by decide +kernel, rfl, by decide +kernel, by decide +kernel⟩
theorem c_law_leads (Y : Fs P w K mg) : CallOk P w K mg base 3 "_law_leads" d__law_leads ["inputs", "deeds", "out", "room"] 4 m_law_leads :=
  def_ok (d := d__law_leads) (N := N__law_leads) (ps := ["inputs", "deeds", "out", "room"]) (p := 4) (m := b__law_leads) (k := 2) (ow := ow__law_leads) (oN := owS []) (oB := owS []) (Y.def_ 35) (Y.glo 54) S__law_leads rfl rfl (by decide) (fun _ _ _ _ _ _ us hl => match us, hl with | [_, _, _, _], _ => rfl) (fun cdv A outer s H E T => (c_cons (o1 := owS [4]) (c_own (ps_set (i := 4) T.nd rfl (Or.inl rfl) (f_lst (xa_cons (x_t1 v_tuple n_tuple rfl (Y.free 6) hv_tuple (w_of (e_of (f_lc (own := [("deed", 12)]) T (i_gr (i_seq (x_var (pv 1) rfl))) (blkOk_by (N := N__law_leads) (sc := sc__law_leads) (own := [("deed", 12)]) (by decide +kernel)) (fun _ _ _ _ _ T1 => (g_nm (pg_name (i := 12) T1.nd rfl (Or.inl rfl)) rfl)) (fun _ _ _ _ _ T1 => (ts_one (t_cmp y_gt n_gt b_gt (w_of (x_own1 T1 (c_law_weight Y) (by decide) rfl (xa_cons (x_var (pv 12) rfl) xa_nil))) (w_of x_int) rfl))) (fun _ _ _ _ _ T1 => x_int) (by decide))))) xa_nil))) rfl (owS_add (by decide)))
  (c_cons (o1 := owS [4, 5]) (c_own (ps_set (i := 5) T.nd rfl (Or.inl rfl) (f_dicT T.dh (x_idx T.ix (x_own (pv 4)) (w_of x_int)) x_int)) rfl (owS_add (by decide)))
  (c_cons (o1 := owS [4, 5, 6]) (c_own (ps_set (i := 6) T.nd rfl (Or.inl rfl) (f_lst xa_nil)) rfl (owS_add (by decide)))
  (c_cons (o1 := owS [4, 5, 6]) (s_up (s_for T.po T.calm (i_rng1 rfl (Y.free 11) (x_var (pv 3) rfl)) (g_nm (pg_name (i := 7) T.nd rfl (Or.inl rfl)) rfl) (c_one (c_if (t_cmp y_lt n_lt b_lt (w_of (x_var (pv 7) rfl)) (w_of (x_b1 v_len n_len rfl (Y.free 1) hv_len (x_own (pv 4)))) rfl) (c_cons (o1 := owS [4, 5, 6, 8]) (c_own (ps_set (i := 8) T.nd rfl (Or.inl rfl) (f_lst xa_nil)) rfl (owS_add (by decide)))
  (c_cons (o1 := owS [4, 5, 6, 8]) (s_up (s_for T.po T.calm (i_rng1 rfl (Y.free 11) (x_bin y_shl n_shl (w_of x_int) (w_of (x_var (pv 0) rfl)))) (g_nm (pg_name (i := 9) T.nd rfl (Or.inl rfl)) rfl) (c_cons (o1 := owS [4, 5, 6, 8]) (s_up (s_gen (ps_asg (x_own1 T (c_law_step Y) (by decide) rfl (xa_cons (x_var (pv 0) rfl) (xa_cons (x_var (pv 1) rfl) (xa_cons (x_idx T.ix (x_own (pv 4)) (w_of (x_var (pv 7) rfl))) (xa_cons (x_var (pv 9) rfl) xa_nil))))) (g_tup T.calm (gs_cons (g_nm (pg_name (i := 10) T.nd rfl (Or.inl rfl)) rfl) (gs_cons (g_nm (pg_name (i := 11) T.nd rfl (Or.inl rfl)) rfl) gs_nil))))) (owS_le (by decide)) (by decide))
  (c_cons (o1 := owS [4, 5, 6, 8]) (c_if (t_cmp T.nin n_notin b_notin (w_of (x_var (pv 11) rfl)) (x_own (pv 5)) rfl) (c_cons (o1 := owS [4, 5, 6, 8]) (s_up (s_setL (i := 5) (ps_asg (x_b1 v_len n_len rfl (Y.free 1) hv_len (x_own (pv 4))) (pg_sub (pv 5) (x_var (pv 11) rfl) T.st)) rfl) (owS_le (by decide)) (by decide))
  (c_one (s_up (s_app1 (i := 4) (pv 4) (x_var (pv 11) rfl) rfl) (owS_le (by decide)) (by decide)))) (c_cut (o1 := owS [4, 5, 6, 8]) c_nil (owS_le (by decide)) (by decide)))
  (c_one (c_if (t_cmp T.eq n_eq b_eq (w_of (x_idx T.ix (w_of (x_var (pv 10) rfl)) (w_of (x_var (pv 2) rfl)))) (w_of x_int) rfl) (c_one (s_up (s_app1 (i := 8) (pv 8) (x_tup (xa_cons (x_var (pv 9) rfl) (xa_cons (x_idx T.ix (x_own (pv 5)) (w_of (x_var (pv 11) rfl))) xa_nil))) rfl) (owS_le (by decide)) (by decide))) (c_cut (o1 := owS [4, 5, 6, 8]) c_nil (owS_le (by decide)) (by decide))))))) (owS_le (by decide)) (by decide))
  (c_cut (o1 := owS [4, 5, 6]) (c_one (s_up (s_app1 (i := 6) (pv 6) (x_var (pv 8) rfl) rfl) (owS_le (by decide)) (by decide))) (owS_le (by decide)) (by decide)))) (c_cut (o1 := owS [4, 5, 6]) c_nil (owS_le (by decide)) (by decide))))) (owS_le (by decide)) (by decide))
  (c_cut (o1 := owS []) (c_one (s_up (s_ret (x_var (pv 6) rfl)) (owS_le (by decide)) (by decide))) (owS_le (by decide)) (by decide)))))))
theorem S__law_plain : FnScope N__law_plain ["inputs", "deeds", "out", "width"] sc__law_plain := ⟨rfl, rfl, rfl, by decide +kernel, rfl, by decide +kernel, by decide +kernel⟩
theorem c_law_plain (Y : Fs P w K mg) : CallOk P w K mg base 3 "_law_plain" d__law_plain ["inputs", "deeds", "out", "width"] 4 m_law_plain :=
  def_ok (d := d__law_plain) (N := N__law_plain) (ps := ["inputs", "deeds", "out", "width"]) (p := 4) (m := b__law_plain) (k := 2) (ow := ow__law_plain) (Y.def_ 36) (Y.glo 55) S__law_plain rfl rfl (by decide) (fun _ _ _ _ _ _ us hl => match us, hl with | [_, _, _, _], _ => rfl) (fun cdv A outer s H E T => (ss_cons (s_set (ps_set (i := 4) T.nd rfl (Or.inl rfl) x_int) rfl)
  (ss_cons (s_set (ps_set (i := 5) T.nd rfl (Or.inl rfl) (x_t1 v_tuple n_tuple rfl (Y.free 6) hv_tuple (w_of (e_of (f_lc (own := [("deed", 12)]) T (i_gr (i_seq (x_var (pv 1) rfl))) (blkOk_by (N := N__law_plain) (sc := sc__law_plain) (own := [("deed", 12)]) (by decide +kernel)) (fun _ _ _ _ _ T1 => (g_nm (pg_name (i := 12) T1.nd rfl (Or.inl rfl)) rfl)) (fun _ _ _ _ _ T1 => (ts_one (t_cmp y_gt n_gt b_gt (w_of (x_own1 T1 (c_law_weight Y) (by decide) rfl (xa_cons (x_var (pv 12) rfl) xa_nil))) (w_of x_int) rfl))) (fun _ _ _ _ _ T1 => x_int) (by decide)))))) rfl)
  (ss_cons (s_for T.po T.calm (i_rng1 rfl (Y.free 11) (x_bin y_shl n_shl (w_of x_int) (w_of (x_bin y_mul n_mul (w_of (x_var (pv 0) rfl)) (w_of (x_var (pv 3) rfl)))))) (g_nm (pg_name (i := 6) T.nd rfl (Or.inl rfl)) rfl) (ss_cons (s_set (ps_set (i := 7) T.nd rfl (Or.inl rfl) (x_var (pv 5) rfl)) rfl)
  (ss_cons (s_set (ps_set (i := 8) T.nd rfl (Or.inl rfl) x_bl) rfl)
  (ss_cons (s_for T.po T.calm (i_rng1 rfl (Y.free 11) (x_var (pv 3) rfl)) (g_nm (pg_name (i := 9) T.nd rfl (Or.inl rfl)) rfl) (ss_cons (s_set (ps_set (i := 10) T.nd rfl (Or.inl rfl) (x_bin y_and n_and (w_of (x_bin y_shr n_shr (w_of (x_var (pv 6) rfl)) (w_of (x_bin y_mul n_mul (w_of (x_var (pv 0) rfl)) (w_of (x_var (pv 9) rfl)))))) (w_of (x_bin y_sub n_sub (w_of (x_bin y_shl n_shl (w_of x_int) (w_of (x_var (pv 0) rfl)))) (w_of x_int))))) rfl)
  (ss_cons (s_gen (ps_asg (x_own1 T (c_law_step Y) (by decide) rfl (xa_cons (x_var (pv 0) rfl) (xa_cons (x_var (pv 1) rfl) (xa_cons (x_var (pv 7) rfl) (xa_cons (x_var (pv 10) rfl) xa_nil))))) (g_tup T.calm (gs_cons (g_nm (pg_name (i := 11) T.nd rfl (Or.inl rfl)) rfl) (gs_cons (g_nm (pg_name (i := 7) T.nd rfl (Or.inl rfl)) rfl) gs_nil)))))
  (ss_one (s_set (ps_set (i := 8) T.nd rfl (Or.inl rfl) (x_and (x_var (pv 8) rfl) (x_one (x_cmp T.eq n_eq (w_of (x_idx T.ix (w_of (x_var (pv 11) rfl)) (w_of (x_var (pv 2) rfl)))) (w_of x_int) rfl)))) rfl)))))
  (ss_one (s_set (ps_set (i := 4) T.nd rfl (Or.inl rfl) (x_bin y_add n_add (w_of (x_var (pv 4) rfl)) (w_of (x_t1 v_int n_int rfl (Y.free 0) hv_int (w_of (x_var (pv 8) rfl)))))) rfl))))))
  (ss_one (s_ret (x_var (pv 4) rfl)))))))
theorem S__law_refused : FnScope N__law_refused ["turn", "row", "wrong"] sc__law_refused := ⟨rfl, rfl, rfl, by decide +kernel, rfl, by decide +kernel, by decide +kernel⟩
theorem c_law_refused (Y : Fs P w K mg) : CallOk P w K mg base 8 "_law_refused" d__law_refused ["turn", "row", "wrong"] 3 m_law_refused :=
  def_ok (d := d__law_refused) (N := N__law_refused) (ps := ["turn", "row", "wrong"]) (p := 3) (m := b__law_refused) (k := 7) (ow := ow__law_refused) (Y.def_ 37) (Y.glo 56) S__law_refused rfl rfl (by decide) (fun _ _ _ _ _ _ us hl => match us, hl with | [_, _, _], _ => rfl) (fun cdv A outer s H E T => (ss_cons (s_tryX (es := ES) (all := EALL) (fl := EFL) (x := "InvalidNumber") (i := 3) T (ers_ok (Y.more 6)) (ex_ok (Y.more 7)) (Y.glo 17) rfl rfl rfl rfl rfl
  (fun _ _ _ T1 => (bs_one (b_if (t_cmp T1.eq n_eq b_eq (w_of (x_var (pv 0) rfl)) (w_of x_int) rfl) (bs_one (b_drop (ps_expr (x_own1 T1 (c_count_zeros Y) (by decide) rfl (xa_cons (x_var (pv 1) rfl) (xa_cons (x_var (pv 2) rfl) xa_nil)))))) (bs_one (b_drop (ps_expr (x_own1 T1 (c_first_zero Y) (by decide) rfl (xa_cons (x_var (pv 1) rfl) (xa_cons (x_var (pv 2) rfl) xa_nil)))))))))
  (fun _ _ c_e _ fs_e _ hc_e hz_e hv_e T2 => (ss_cons (s_if (PW.pt (t_or (t_not (t_tst (w_of (x_xis1 (t := "CarryError") (es := ES) (all := EALL) (fl := EFL) (ers_ok (Y.more 6)) hc_e hz_e hv_e rfl rfl (Y.free 5) (pv 3) (xc_glob (t := "CarryError") (by decide) rfl (Y.glo 16)))) (by intro _; rfl))) (t_or1 (t_cmp T2.ne n_ne b_ne (w_of (x_isi1 (cs := CS) (t := .bl) rfl (kit_of_b (Y.more 3)) rfl (Y.free 5) (w_of (x_var (pv 2) rfl)) (pe_bltn rfl (Y.free 7) hv_bool rfl))) (w_of (x_isi1 (cs := CS) (t := .bl) rfl (kit_of_b (Y.more 3)) rfl (Y.free 5) (w_of (x_xfld (es := ES) (all := EALL) (fl := EFL) (ers_ok (Y.more 6)) hc_e hz_e hv_e (pv 3))) (pe_bltn rfl (Y.free 7) hv_bool rfl))) rfl)))) (ss_one (s_ret x_bl)) ss_nil)
  (ss_cons (s_if (t_isN (w_of (x_var (pv 2) rfl))) (ss_one (s_ret (x_isN (w_of (x_xfld (es := ES) (all := EALL) (fl := EFL) (ers_ok (Y.more 6)) hc_e hz_e hv_e (pv 3)))))) ss_nil)
  (ss_one (s_ret (x_and (x_cmp T2.eq n_eq (w_of (x_isi1 (cs := CS) (t := .str) rfl (kit_of_b (Y.more 3)) rfl (Y.free 5) (w_of (x_var (pv 2) rfl)) (pe_bltn rfl (Y.free 8) hv_str rfl))) (w_of (x_isi1 (cs := CS) (t := .str) rfl (kit_of_b (Y.more 3)) rfl (Y.free 5) (w_of (x_xfld (es := ES) (all := EALL) (fl := EFL) (ers_ok (Y.more 6)) hc_e hz_e hv_e (pv 3))) (pe_bltn rfl (Y.free 8) hv_str rfl))) rfl) (x_one (x_cmp T2.eq n_eq (w_of (x_xfld (es := ES) (all := EALL) (fl := EFL) (ers_ok (Y.more 6)) hc_e hz_e hv_e (pv 3))) (w_of (x_var (pv 2) rfl)) rfl)))))))))
  (ss_one (s_ret x_bl))))
theorem S__law_ask : FnScope N__law_ask ["pool"] sc__law_ask := ⟨rfl, rfl, rfl, by decide +kernel, rfl, by decide +kernel, by decide +kernel⟩
theorem c_law_ask (Y : Fs P w K mg) : CallOk P w K mg base 9 "_law_ask" d__law_ask ["pool"] 1 m_law_ask :=
  def_ok (d := d__law_ask) (N := N__law_ask) (ps := ["pool"]) (p := 1) (m := b__law_ask) (k := 8) (ow := ow__law_ask) (Y.def_ 38) (Y.glo 57) S__law_ask rfl rfl (by decide) (fun _ _ _ _ _ _ us hl => match us, hl with | [_], _ => rfl) (fun cdv A outer s H E T => (ss_cons (s_set (ps_set (i := 1) T.nd rfl (Or.inl rfl) (x_idx T.ix (w_of (x_tup (xa_cons x_int (xa_cons x_int (xa_cons x_int (xa_cons x_int xa_nil)))))) (w_of (x_own1 T (c_law_pick Y) (by decide) rfl (xa_cons (x_var (pv 0) rfl) (xa_cons x_int xa_nil)))))) rfl)
  (ss_cons (s_set (ps_set (i := 2) T.nd rfl (Or.inl rfl) (x_bin y_fdiv n_fdiv (w_of x_int) (w_of (x_var (pv 1) rfl)))) rfl)
  (ss_cons (s_if (t_cmp T.eq n_eq b_eq (w_of (x_own1 T (c_law_pick Y) (by decide) rfl (xa_cons (x_var (pv 0) rfl) (xa_cons x_int xa_nil)))) (w_of x_int) rfl) (ss_cons (s_set (ps_set (i := 1) T.nd rfl (Or.inl rfl) x_int) rfl)
  (ss_one (s_set (ps_set (i := 2) T.nd rfl (Or.inl rfl) x_int) rfl))) ss_nil)
  (ss_cons (s_set (ps_set (i := 3) T.nd rfl (Or.inl rfl) (x_own1 T (c_law_pick Y) (by decide) rfl (xa_cons (x_var (pv 0) rfl) (xa_cons x_int xa_nil)))) rfl)
  (ss_cons (s_if (t_cmp T.eq n_eq b_eq (w_of (x_var (pv 2) rfl)) (w_of x_int) rfl) (ss_one (s_set (ps_set (i := 3) T.nd rfl (Or.inl rfl) x_int) rfl)) ss_nil)
  (ss_cons (s_set (ps_set (i := 4) T.nd rfl (Or.inl rfl) (x_own1 T (c_law_deeds Y) (by decide) rfl (xa_cons (x_var (pv 0) rfl) (xa_cons (x_var (pv 1) rfl) (xa_cons (x_var (pv 3) rfl) (xa_cons (x_var (pv 2) rfl) xa_nil)))))) rfl)
  (ss_cons (s_set (ps_set (i := 5) T.nd rfl (Or.inl rfl) (x_bin y_sub n_sub (w_of (x_bin y_add n_add (w_of (x_var (pv 1) rfl)) (w_of (x_b1 v_len n_len rfl (Y.free 1) hv_len (w_of (x_var (pv 4) rfl)))))) (w_of x_int))) rfl)
  (ss_cons (s_set (ps_set (i := 6) T.nd rfl (Or.inl rfl) (x_own1 T (c_law_pick Y) (by decide) rfl (xa_cons (x_var (pv 0) rfl) (xa_cons x_int xa_nil)))) rfl)
  (ss_cons (s_if (t_cmp y_lt n_lt b_lt (w_of (x_var (pv 6) rfl)) (w_of x_int) rfl) (ss_one (s_set (ps_set (i := 5) T.nd rfl (Or.inl rfl) (x_own1 T (c_law_pick Y) (by decide) rfl (xa_cons (x_var (pv 0) rfl) (xa_cons (x_bin y_add n_add (w_of (x_var (pv 1) rfl)) (w_of (x_b1 v_len n_len rfl (Y.free 1) hv_len (w_of (x_var (pv 4) rfl))))) xa_nil)))) rfl)) (ss_one (s_if (PW.pt (t_and (t_cmp T.eq n_eq b_eq (w_of (x_var (pv 6) rfl)) (w_of x_int) rfl) (t_and1 (t_cmp y_gt n_gt b_gt (w_of (x_b1 v_len n_len rfl (Y.free 1) hv_len (w_of (x_var (pv 4) rfl)))) (w_of x_int) rfl)))) (ss_one (s_set (ps_set (i := 5) T.nd rfl (Or.inl rfl) (x_bin y_sub n_sub (w_of (x_bin y_sub n_sub (w_of (x_bin y_add n_add (w_of (x_var (pv 1) rfl)) (w_of (x_b1 v_len n_len rfl (Y.free 1) hv_len (w_of (x_var (pv 4) rfl)))))) (w_of x_int))) (w_of (x_b2 (v_min2 T.calm) n_min2 rfl (Y.free 2) hv_min (w_of (x_b1 v_len n_len rfl (Y.free 1) hv_len (w_of (x_var (pv 4) rfl)))) (w_of (x_bin y_add n_add (w_of x_int) (w_of (x_own1 T (c_law_pick Y) (by decide) rfl (xa_cons (x_var (pv 0) rfl) (xa_cons x_int xa_nil)))))))))) rfl)) ss_nil)))
  (ss_cons (s_set (ps_set (i := 7) T.nd rfl (Or.inl rfl) (x_tup (xa_cons (x_var (pv 1) rfl) (xa_cons (x_var (pv 4) rfl) (xa_cons (x_var (pv 5) rfl) xa_nil))))) rfl)
  (ss_cons (s_set (ps_set (i := 8) T.nd rfl (Or.inl rfl) (x_new (cls := "Row") T (c_Row Y) (by decide) rfl (xa_cons (x_var (pv 1) rfl) (xa_cons (e_of (f_list rfl rfl (Y.free 3) (w_of (x_var (pv 4) rfl)))) (xa_cons (x_var (pv 5) rfl) xa_nil))))) rfl)
  (ss_cons (s_set (ps_set (i := 9) T.nd rfl (Or.inl rfl) (x_own1 T (c_law_leads Y) (by decide) rfl (xa_cons (x_var (pv 1) rfl) (xa_cons (x_var (pv 4) rfl) (xa_cons (x_var (pv 5) rfl) (xa_cons (x_var (pv 2) rfl) xa_nil)))))) rfl)
  (ss_cons (s_set (ps_set (i := 10) T.nd rfl (Or.inl rfl) (x_own1 T (c_law_pick Y) (by decide) rfl (xa_cons (x_var (pv 0) rfl) (xa_cons x_int xa_nil)))) rfl)
  (ss_cons (s_if (PW.pt (t_or (t_not (t_tst (w_of (x_own1 T (c_law_asked Y) (by decide) rfl (xa_cons (x_var (pv 8) rfl) (xa_cons (x_var (pv 7) rfl) (xa_cons (x_var (pv 9) rfl) (xa_cons (x_var (pv 10) rfl) xa_nil)))))) (by intro _; rfl))) (t_or1 (t_not (t_tst (w_of (x_own1 T (c_law_asked Y) (by decide) rfl (xa_cons (x_var (pv 8) rfl) (xa_cons (x_var (pv 7) rfl) (xa_cons (x_var (pv 9) rfl) (xa_cons (x_own1 T (c_law_pick Y) (by decide) rfl (xa_cons (x_var (pv 0) rfl) (xa_cons x_int xa_nil))) xa_nil)))))) (by intro _; rfl)))))) (ss_one (s_ret x_bl)) ss_nil)
  (ss_cons (s_if (PW.pt (t_and (t_cmp y_le n_le b_le (w_of (x_bin y_mul n_mul (w_of (x_var (pv 1) rfl)) (w_of (x_var (pv 10) rfl)))) (w_of x_int) rfl) (t_and1 (t_cmp T.eq n_eq b_eq (w_of (x_own1 T (c_law_pick Y) (by decide) rfl (xa_cons (x_var (pv 0) rfl) (xa_cons x_int xa_nil)))) (w_of x_int) rfl)))) (ss_one (s_if (t_cmp T.ne n_ne b_ne (w_of (x_own1 T (c_count_zeros Y) (by decide) rfl (xa_cons (x_var (pv 8) rfl) (xa_cons (x_var (pv 10) rfl) xa_nil)))) (w_of (x_own1 T (c_law_plain Y) (by decide) rfl (xa_cons (x_var (pv 1) rfl) (xa_cons (x_var (pv 4) rfl) (xa_cons (x_var (pv 5) rfl) (xa_cons (x_var (pv 10) rfl) xa_nil)))))) rfl) (ss_one (s_ret x_bl)) ss_nil)) ss_nil)
  (ss_cons (s_if (t_cmp T.eq n_eq b_eq (w_of (x_own1 T (c_law_pick Y) (by decide) rfl (xa_cons (x_var (pv 0) rfl) (xa_cons x_int xa_nil)))) (w_of x_int) rfl) (ss_cons (s_set (ps_set (i := 11) T.nd rfl (Or.inl rfl) (x_idx T.ix (w_of (e_of (f_lst (xa_cons x_bl (xa_cons x_bl (xa_cons (x_bin y_sub n_sub (w_of (x_un y_neg n_neg (w_of x_int))) (w_of (x_own1 T (c_law_pick Y) (by decide) rfl (xa_cons (x_var (pv 0) rfl) (xa_cons x_int xa_nil))))) (xa_cons x_non (xa_cons (x_str (s := "3")) (xa_cons (x_tup (xa_cons x_int xa_nil)) xa_nil))))))))) (w_of (x_own1 T (c_law_pick Y) (by decide) rfl (xa_cons (x_var (pv 0) rfl) (xa_cons x_int xa_nil)))))) rfl)
  (ss_one (s_if (PW.pt (t_or (t_not (t_tst (w_of (x_own1 T (c_law_refused Y) (by decide) rfl (xa_cons x_int (xa_cons (x_var (pv 8) rfl) (xa_cons (x_var (pv 11) rfl) xa_nil))))) (by intro _; rfl))) (t_or (t_not (t_tst (w_of (x_own1 T (c_law_refused Y) (by decide) rfl (xa_cons x_int (xa_cons (x_var (pv 8) rfl) (xa_cons (x_var (pv 11) rfl) xa_nil))))) (by intro _; rfl))) (t_or1 (t_not (t_tst (w_of (x_own1 T (c_law_asked Y) (by decide) rfl (xa_cons (x_var (pv 8) rfl) (xa_cons (x_var (pv 7) rfl) (xa_cons (x_var (pv 9) rfl) (xa_cons (x_var (pv 10) rfl) xa_nil)))))) (by intro _; rfl))))))) (ss_one (s_ret x_bl)) ss_nil))) ss_nil)
  (ss_one (s_ret (x_own1 T (c_law_stays Y) (by decide) rfl (xa_cons (x_var (pv 8) rfl) (xa_cons (x_var (pv 1) rfl) (xa_cons (x_var (pv 4) rfl) (xa_cons (x_var (pv 5) rfl) xa_nil))))))))))))))))))))))))
theorem S_law : FnScope N_law ["script"] sc_law := ⟨rfl, rfl, rfl, by decide +kernel, rfl, by decide +kernel, by decide +kernel⟩
theorem law_is (Y : Fs P w K mg) : ∃ fd : FuncData, (∀ (s : Shared) (u : Value), BindsTo s fd ⟨[u], []⟩ [("script", u)]) ∧ ∀ base : Heap, FnOk P w K mg base (L2N.CX P w) 10 (He.ga K "law") fd ["script"] (spM K 1 m_law) :=
  law_ok (qual := "law") (params := defArgs st_law) (body := defBody st_law) (scope := sc_law) (f := He.ga K "law") (N := N_law) (m := b_law) (ow := ow_law) (Y.def_ 39) S_law rfl rfl (fun _ _ _ _ _ _ us hl => match us, hl with | [_], _ => rfl) (fun base cdv A outer s H E T => (ss_cons (s_set (ps_set (i := 1) T.nd rfl (Or.inl rfl) (x_pool (f_lst (xa_cons (e_of (f_lc (own := [("cell", 2)]) T (i_gr (i_seq (x_slc (w_of (x_var (pv 0) rfl)) o_none (o_some x_int)))) (blkOk_by (N := N_law) (sc := sc_law) (own := [("cell", 2)]) (by decide +kernel)) (fun _ _ _ _ _ T1 => (g_nm (pg_name (i := 2) T1.nd rfl (Or.inl rfl)) rfl)) (fun _ _ _ _ _ T1 => ts_nil) (fun _ _ _ _ _ T1 => (x_t1 v_int n_int rfl (Y.free 0) hv_int (w_of (x_var (pv 2) rfl)))) (by decide))) (xa_cons x_int (xa_cons x_int (xa_cons x_int xa_nil))))))) rfl)
  (ss_one (s_thru T fun T2 => (ss_one (s_ret (x_own1 T2 (c_law_ask Y) (by decide) rfl (xa_cons (x_var (pv 1) rfl) xa_nil))))))))
end
theorem ob_eq (s : PySem.W.SharedT) : ob s = hkY.obs s.abs := obsYG_eq (HandSHeadRun.getT_eq s)
end Py
/-! More about mirrors: comprehensions over made lists, enumerate, slices, draws. -/
namespace Py.U
open PySem
def Drawn : List Int → List Int → Prop
  | [], [] => True
  | d :: ds, s :: ss => (0 ≤ d ∧ d < s) ∧ Drawn ds ss
  | _, _ => False
theorem Drawn.snoc : ∀ {ds ss : List Int} {d s : Int}, Drawn ds ss → 0 ≤ d → d < s → Drawn (ds ++ [d]) (ss ++ [s])
  | [], [], _, _, _, h1, h2 => ⟨⟨h1, h2⟩, trivial⟩
  | d :: ds, s :: ss, _, _, h, h1, h2 => ⟨h.1, Drawn.snoc h.2 h1 h2⟩
  | [], _ :: _, _, _, h, _, _ => h.elim
  | _ :: _, [], _, _, h, _, _ => h.elim
theorem Drawn.length : ∀ {ds ss : List Int}, Drawn ds ss → ds.length = ss.length
  | [], [], _ => rfl
  | d :: ds, s :: ss, h => congrArg (· + 1) (Drawn.length h.2)
  | [], _ :: _, h => h.elim
  | _ :: _, [], h => h.elim
theorem le_sz {n : Nat} (h : n ≤ 1000) : n ≤ SZ := Nat.le_trans h (by decide)
mutual
theorem eqv_refl : ∀ (n : Nat) (d : D), pl n d = true → eqv d d = true
  | _, .non, _ => by simp [eqv]
  | _, .bl _, _ => by simp [eqv]
  | _, .int _, _ => by simp [eqv]
  | _, .str _, _ => by simp [eqv]
  | 0, .tup _, h => by simp [pl] at h
  | 0, .lst _, h => by simp [pl] at h
  | n + 1, .tup xs, h => by
    simp only [pl] at h
    unfold eqv
    exact eqv_reflL n xs h
  | n + 1, .lst xs, h => by
    simp only [pl] at h
    unfold eqv
    exact eqv_reflL n xs h
  | n, .ins _ _, h => by cases n <;> simp [pl] at h
  | n, .dic _ _, h => by cases n <;> simp [pl] at h
  | n, .drw _, h => by cases n <;> simp [pl] at h
theorem eqv_reflL : ∀ (n : Nat) (ds : List D), ds.all (pl n) = true → eqv.eqvL ds ds = true
  | _, [], _ => by simp [eqv.eqvL]
  | n, d :: ds, h => by
    simp only [List.all_cons, Bool.and_eq_true] at h
    simp only [eqv.eqvL, eqv_refl n d h.1, eqv_reflL n ds h.2, Bool.and_self]
end
theorem compL_mapI {α : Type} {f : D → Res (Option D)} {k h : α → D} : ∀ {ys : List α}, (∀ y ∈ ys, f (k y) = .ok (some (h y))) → compL f (ys.map k) = .ok (ys.map h)
  | [], _ => rfl
  | y :: ys, q => by
    rw [List.map_cons, List.map_cons]
    unfold compL
    rw [q y List.mem_cons_self, compL_mapI fun z hz => q z (List.mem_cons_of_mem _ hz)] <;> rfl
theorem lc_mapI {α : Type} {it : IM} {vs : List Nat} {g : GM} {elt : EM} {e : Env} {ys : List α} {k h : α → D} (hi : it e = .ok (ys.map k)) (hz : ys.length ≤ SZ) (hx : ∀ y ∈ ys, ∃ e1, g (k y) (wipe e vs) = some e1 ∧ elt e1 = .ok (h y)) : lcE it vs g yes elt e = .ok (.lst (ys.map h)) := by
  unfold lcE
  rw [hi]
  have q : compL (compF vs g yes elt e) (ys.map k) = .ok (ys.map h) := compL_mapI fun x hm => by
    obtain ⟨e1, h1, h2⟩ := hx x hm
    unfold compF
    rw [h1]
    simp [yes, h2]
  simp only [bind_ok, q, noexc_ok, List.length_map]
  exact chk_ok hz
theorem sum_map {α : Type} (f : α → Int) (ys : List α) : bsum (.lst (ys.map fun y => .int (f y))) = .ok (.int (ys.map f).sum) := by
  have q := bsum_ints (ys.map f)
  rw [List.map_map] at q
  exact q
theorem enumL_snoc : ∀ (xs : List D) (k : Nat) (d : D), enumL k (xs ++ [d]) = enumL k xs ++ [.tup [.int ((k + xs.length : Nat) : Int), d]]
  | [], k, d => by simp [enumL]
  | x :: xs, k, d => by
    simp only [List.cons_append, enumL, enumL_snoc xs (k + 1) d, List.length_cons]
    rw [show k + 1 + xs.length = k + (xs.length + 1) by omega]
theorem enum_rng (f : Nat → D) : ∀ w : Nat, enumL 0 ((List.range w).map f) = (List.range w).map fun p => .tup [.int ((p : Nat) : Int), f p]
  | 0 => rfl
  | w + 1 => by
    rw [List.range_succ, List.map_append, List.map_append, List.map_singleton, List.map_singleton, enumL_snoc, enum_rng f w]
    simp
theorem seq_next {a b : SM} {e e' : Env} (h : a e = .ok (.next e')) : seq a b e = b e' := by
  rw [seq_eq, h]
  rfl
theorem slc_eq (a : EM) (lo hi : Option EM) (e : Env) : slc a lo hi e = (a e >>= fun x => slc.bnd lo e >>= fun i => slc.bnd hi e >>= fun j => oslc x i j) := rfl
theorem bnd_none (e : Env) : slc.bnd none e = .ok none := rfl
theorem bnd_some (m : EM) (e : Env) : slc.bnd (some m) e = (m e >>= fun d => match d with | .int i => .ok (some i) | _ => .stuck) := rfl
end Py.U
/-! Numbers of first meetings; classes of states; a search by levels. No program in sight. -/
namespace Py.U
section
variable {α β : Type} [DecidableEq α] [DecidableEq β]
def addU (s : List α) (k : α) : List α := if k ∈ s then s else s ++ [k]
theorem mem_addU {s : List α} {k x : α} : x ∈ addU s k ↔ x ∈ s ∨ x = k := by
  unfold addU
  split
  · rename_i h
    constructor
    · exact .inl
    · rintro (q | rfl)
      · exact q
      · exact h
  · simp
theorem nodup_addU {s : List α} {k : α} (h : s.Nodup) : (addU s k).Nodup := by
  unfold addU
  split
  · exact h
  · rename_i hk
    rw [List.nodup_append]
    refine ⟨h, by simp, fun a ha b hb => ?_⟩
    rw [List.mem_singleton.mp hb]
    rintro rfl
    exact hk ha
theorem foldU : ∀ (ks s : List α), s.Nodup → (ks.foldl addU s).Nodup ∧ ∀ x, x ∈ ks.foldl addU s ↔ x ∈ s ∨ x ∈ ks
  | [], s, h => ⟨h, fun x => by simp⟩
  | k :: ks, s, h => by
    obtain ⟨h1, h2⟩ := foldU ks (addU s k) (nodup_addU h)
    refine ⟨h1, fun x => ?_⟩
    rw [List.foldl_cons, h2, mem_addU, List.mem_cons]
    constructor
    · rintro ((a | a) | a)
      · exact .inl a
      · exact .inr (.inl a)
      · exact .inr (.inr a)
    · rintro (a | a | a)
      · exact .inl (.inl a)
      · exact .inl (.inr a)
      · exact .inr a
theorem idx_app {s t : List α} {k : α} (h : k ∈ s) : (s ++ t).idxOf k = s.idxOf k := by
  rw [List.idxOf_append, if_pos h]
end
/-! ### classes -/
theorem range_getD {c : List Nat} {n : Nat} (h : c.length = n) : (List.range n).map (fun s => c.getD s 0) = c := by
  apply List.ext_getElem
  · simp [h]
  · intro i h1 h2
    simp [h2]
/-! ### a search by levels -/
section
variable (C : Nat → Nat) (nx : List (List Nat))
def stepT (f : List Nat) (t : Nat) : List Nat := if C t ∈ f.map C then f else f ++ [t]
def stepS (f : List Nat) (s : Nat) : List Nat := (nx.getD s []).foldl (stepT C) f
variable {C nx}
theorem stepT_pre (f : List Nat) (t : Nat) : ∃ r, stepT C f t = f ++ r := by
  unfold stepT
  split
  · exact ⟨[], by simp⟩
  · exact ⟨[t], rfl⟩
theorem foldT_pre : ∀ (ts f : List Nat), ∃ r, ts.foldl (stepT C) f = f ++ r
  | [], f => ⟨[], by simp⟩
  | t :: ts, f => by
    obtain ⟨r, hr⟩ := stepT_pre (C := C) f t
    obtain ⟨r2, hr2⟩ := foldT_pre ts (f ++ r)
    refine ⟨r ++ r2, ?_⟩
    rw [List.foldl_cons, hr, hr2, List.append_assoc]
/-- found states: of unlike classes, all below n -/
structure Fnd (C : Nat → Nat) (n : Nat) (f : List Nat) : Prop where
  nd : (f.map C).Nodup
  lt : ∀ s ∈ f, s < n
theorem Fnd.snoc {n : Nat} {f : List Nat} (h : Fnd C n f) {t : Nat} (ht : t < n) : Fnd C n (stepT C f t) := by
  unfold stepT
  split
  · exact h
  · rename_i hn
    refine ⟨?_, fun s hs => ?_⟩
    · rw [List.map_append, List.nodup_append]
      refine ⟨h.nd, by simp, fun a ha b hb => ?_⟩
      rw [List.map_singleton] at hb
      rw [List.mem_singleton.mp hb]
      rintro rfl
      exact hn ha
    · rcases List.mem_append.mp hs with q | q
      · exact h.lt s q
      · rw [List.mem_singleton.mp q]
        exact ht
theorem Fnd.fold {n : Nat} : ∀ {ts f : List Nat}, Fnd C n f → (∀ t ∈ ts, t < n) → Fnd C n (ts.foldl (stepT C) f) ∧ ∀ t ∈ ts, C t ∈ (ts.foldl (stepT C) f).map C
  | [], f, h, _ => ⟨h, by simp⟩
  | t :: ts, f, h, ht => by
    obtain ⟨h1, h2⟩ := Fnd.fold (ts := ts) (h.snoc (ht t List.mem_cons_self)) fun x hx => ht x (List.mem_cons_of_mem _ hx)
    refine ⟨h1, fun x hx => ?_⟩
    rcases List.mem_cons.mp hx with rfl | hx
    · obtain ⟨r, hr⟩ := foldT_pre (C := C) ts (stepT C f x)
      rw [List.foldl_cons, hr, List.map_append]
      refine List.mem_append_left _ ?_
      unfold stepT
      split
      · assumption
      · simp
    · exact h2 x hx
theorem Fnd.step {n : Nat} {f : List Nat} (h : Fnd C n f) {s : Nat} (hs : ∀ t ∈ nx.getD s [], t < n) : Fnd C n (stepS C nx f s) ∧ ∀ t ∈ nx.getD s [], C t ∈ (stepS C nx f s).map C := Fnd.fold h hs
theorem Fnd.len {n m : Nat} {f : List Nat} (h : Fnd C n f) (hC : ∀ s, s < n → C s < m) : f.length ≤ m := by
  have hs : f.map C ⊆ List.range m := fun x hx => by
    obtain ⟨s, hs, rfl⟩ := List.mem_map.mp hx
    exact List.mem_range.mpr (hC s (h.lt s hs))
  have := h.nd.length_le_of_subset hs
  simpa using this
end
end Py.U
/-! Dicts from keys to numbers of first meetings, as data. -/
namespace Py.U
def nD (n : Nat) : D := .int (n : Int)
/-! ### equations -/
theorem onotin_dic {t : Bool} {x : D} {kvs : List (D × D)} (h : keyOk t x = true) : onotin x (.dic t kvs) = .ok (.bl (!(find x kvs).isSome)) := by
  show (if keyOk t x = true then Res.ok (D.bl (!(find x kvs).isSome)) else Res.stuck) = _
  rw [if_pos h]
theorem oidx_dic {t : Bool} {x d : D} {kvs : List (D × D)} (h : keyOk t x = true) (hf : find x kvs = some d) : oidx (.dic t kvs) x = .ok d := by
  have e : oidx (.dic t kvs) x = if keyOk t x then opt (find x kvs) else .stuck := by
    cases x <;> rfl
  rw [e, if_pos h, hf]
  rfl
theorem setL_dic {i : Nat} {j m : EM} {e : Env} {t : Bool} {kvs : List (D × D)} {k d : D} (h1 : var i e = .ok (.dic t kvs)) (h2 : m e = .ok d) (h3 : j e = .ok k) (h4 : keyOk t k = true) (h5 : kvs.length < SZ) : setL i j m e = .ok (.next (e.set i (some (.dic t (putD k d kvs))))) := by
  unfold setL
  rw [h1, bind_ok]
  dsimp only
  rw [h2, bind_ok, h3, bind_ok, h4, decide_eq_true h5]
  rfl
@[simp] theorem dic0_eq (t : Bool) (e : Env) : dic0 t e = .ok (.dic t []) := rfl
theorem dic1_eq {t : Bool} {a b : EM} {e : Env} {k v : D} (h1 : a e = .ok k) (h2 : b e = .ok v) (h3 : keyOk t k = true) : dic1 t a b e = .ok (.dic t [(k, v)]) := by
  unfold dic1
  rw [h1, bind_ok, h2, bind_ok, if_pos h3]
/-! ### keys -/
structure KeyE {α : Type} [DecidableEq α] (t : Bool) (kd : α → D) : Prop where
  eq : ∀ a b, eqv (kd a) (kd b) = decide (a = b)
  ok : ∀ a, keyOk t (kd a) = true
section
variable {α : Type} [DecidableEq α] {t : Bool} {kd : α → D}
def tabF (kd : α → D) (k0 : Nat) : List α → List (D × D)
  | [] => []
  | a :: r => (kd a, nD k0) :: tabF kd (k0 + 1) r
theorem tabF_len (kd : α → D) : ∀ (s : List α) (k0 : Nat), (tabF kd k0 s).length = s.length
  | [], _ => rfl
  | a :: r, k0 => by simp [tabF, tabF_len kd r]
theorem find_tabF (h : KeyE t kd) (k : α) : ∀ (s : List α) (k0 : Nat), find (kd k) (tabF kd k0 s) = if k ∈ s then some (nD (k0 + s.idxOf k)) else none
  | [], k0 => by simp [tabF, find]
  | a :: r, k0 => by
    simp only [tabF, find, h.eq]
    by_cases e : a = k
    · subst e
      simp
    · have e2 : ¬ k = a := fun z => e z.symm
      rw [decide_eq_false e, if_neg (by decide), find_tabF h k r (k0 + 1)]
      have e3 : (a == k) = false := by simpa using e
      simp only [List.mem_cons, e2, false_or, List.idxOf_cons, e3, cond_false]
      by_cases q : k ∈ r
      · rw [if_pos q, if_pos q]
        congr 2
        omega
      · rw [if_neg q, if_neg q]
theorem put_tabF (h : KeyE t kd) (k : α) : ∀ (s : List α) (k0 : Nat), k ∉ s → putD (kd k) (nD (k0 + s.length)) (tabF kd k0 s) = tabF kd k0 (s ++ [k])
  | [], k0, _ => by simp [tabF, putD]
  | a :: r, k0, hk => by
    simp only [List.mem_cons, not_or] at hk
    simp only [List.cons_append, tabF, putD, h.eq]
    rw [decide_eq_false fun z => hk.1 z.symm, if_neg (by decide)]
    have := put_tabF h k r (k0 + 1) hk.2
    rw [show k0 + 1 + r.length = k0 + (a :: r).length by simp; omega] at this
    rw [this]
end
/-! ### numbers, lines -/
theorem nD_eq (a b : Nat) : eqv (nD a) (nD b) = decide (a = b) := by
  show eqv (.int (a : Int)) (.int (b : Int)) = _
  simp only [eqv]
  by_cases q : a = b
  · subst q
    simp
  · rw [decide_eq_false q]
    simp
    omega
theorem lineE_eq : ∀ (a b : List Nat), eqv.eqvL (a.map nD) (b.map nD) = decide (a = b)
  | [], [] => by simp [eqv.eqvL]
  | [], b :: bs => by simp [eqv.eqvL]
  | a :: as, [] => by simp [eqv.eqvL]
  | a :: as, b :: bs => by
    simp only [List.map_cons, eqv.eqvL, nD_eq, lineE_eq as bs]
    by_cases q : a = b <;> by_cases r : as = bs <;> simp [q, r]
def rD (r : List Nat) : D := .tup (r.map nD)
theorem rD_eq (a b : List Nat) : eqv (rD a) (rD b) = decide (a = b) := by
  unfold rD
  simp only [eqv]
  exact lineE_eq a b
theorem hk_nD (n m : Nat) : hk n (nD m) = true := by
  unfold nD
  cases n <;> rfl
theorem hk_rD (n : Nat) (r : List Nat) : hk (n + 1) (rD r) = true := by
  unfold rD
  simp only [hk, List.all_map, List.all_eq_true]
  exact fun x _ => hk_nD n x
theorem key_rD : KeyE true rD := ⟨rD_eq, fun a => hk_rD 7 a⟩
/-! ### each key by the number of its first meeting -/
end Py.U
/-! Whatever is drawn: how mirrors that draw are computed. -/
namespace Py.U
open PySem
@[simp] theorem always_ok {α : Type} {P : α → Prop} {a : α} : Always P (.ok a) = P a := rfl
theorem _root_.Py.Always.mono {α : Type} {P Q : α → Prop} {r : Res α} (h : Always P r) (k : ∀ a, P a → Q a) : Always Q r := by
  induction r with
  | ok a => exact k a h
  | exc c fs => exact h
  | stuck => exact h
  | pick n f ih => exact fun i hi => ih i (h i hi)
theorem _root_.Py.Always.bind {α β : Type} {Q : α → Prop} {P : β → Prop} {r : Res α} {f : α → Res β} (h : Always Q r) (k : ∀ a, Q a → Always P (f a)) : Always P (r >>= f) := by
  induction r with
  | ok a => exact k a h
  | exc c fs => exact h.elim
  | stuck => exact h.elim
  | pick n g ih =>
    rw [bind_pick]
    exact fun i hi => ih i (h i hi)
theorem _root_.Py.Always.noexc {α : Type} {P : α → Prop} {r : Res α} (h : Always P r) : Always P (Py.noexc r) := by
  induction r with
  | ok a => exact h
  | exc c fs => exact h.elim
  | stuck => exact h.elim
  | pick n g ih => exact fun i hi => ih i (h i hi)
theorem _root_.Py.Always.done {P : D → Prop} {r : Res Fl} (h : Always (fun f => match f with | .next _ => P .non | .ret d => P d | _ => False) r) : Always P (done r) := by
  unfold Py.done
  refine h.bind fun f hf => ?_
  cases f with
  | next e => exact hf
  | ret d => exact hf
  | brk e => exact hf
  | cnt e => exact hf
/-- a draw -/
theorem pick_a {P : D → Prop} {k : Bool} {n : Nat} (h0 : 0 < n) (h1 : n < 1000000) (h : ∀ i : Nat, i < n → P (nD i)) : Always P (pickF k [.drw (.inl k), nD n]) := by
  show Always P (if k = k ∧ 0 < ((n : Nat) : Int) ∧ ((n : Nat) : Int) < 1073741824 then .pick (((n : Nat) : Int) - 1).toNat (fun i => .ok (.int i)) else .stuck)
  rw [if_pos ⟨rfl, by omega, by omega⟩]
  intro i hi
  exact h i (by omega)
/-- a draw as it is called -/
theorem pickc {Q : D → Prop} {k : Bool} {e : Env} {i : Nat} {m : EM} {d : D} (n : Nat) (h : e[i]? = some (some (.drw (.inl k)))) (hm : m e = .ok d) (hd : d = nD n) (h0 : 0 < n) (h1 : n < 1000000) (q : ∀ i : Nat, i < n → Q (nD i)) : Always Q (call (pickF k) (argC (var i) (argC m argN)) e) := by
  rw [call_eq, argC_eq, var_eq h, bind_ok, argC_eq, hm, bind_ok, hd]
  exact pick_a h0 h1 q
/-! ### statements -/
def NX (I : Env → Prop) (f : Fl) : Prop := ∃ e, f = .next e ∧ I e
theorem seq_a {P : Fl → Prop} {I : Env → Prop} {a b : SM} {e : Env} (h : Always (NX I) (a e)) (k : ∀ e', I e' → Always P (b e')) : Always P (seq a b e) := by
  rw [seq_eq]
  refine h.bind ?_
  rintro f ⟨e', rfl, hI⟩
  exact k e' hI
theorem asg_a {P : Fl → Prop} {Q : D → Prop} {i : Nat} {m : EM} {r : SM} {e : Env} (h : Always Q (m e)) (k : ∀ d, Q d → Always P (r (e.set i (some d)))) : Always P (seq (asg (gnm i) m) r e) := by
  rw [seq_eq, asg_eq]
  refine Always.bind (Q := fun f => ∃ d, Q d ∧ f = .next (e.set i (some d))) (h.bind fun d hd => ⟨d, hd, rfl⟩) ?_
  rintro f ⟨d, hd, rfl⟩
  exact k d hd
theorem asg_1 {P : Fl → Prop} {Q : D → Prop} {i : Nat} {m : EM} {e : Env} (h : Always Q (m e)) (k : ∀ d, Q d → P (.next (e.set i (some d)))) : Always P (asg (gnm i) m e) := by
  rw [asg_eq]
  exact h.bind fun d hd => k d hd
theorem ite_a {P : Fl → Prop} {t : TM} {a b : SM} {e : Env} {c : Bool} (h : t e = .ok c) (h1 : c = true → Always P (a e)) (h2 : c = false → Always P (b e)) : Always P (Py.ite t a b e) := by
  rw [ite_eq, h, bind_ok]
  cases c
  · exact h2 rfl
  · exact h1 rfl
theorem for_a {b : D → Env → Res Fl} (I : Nat → Env → Prop) : ∀ {xs : List D} {e : Env} (k : Nat), I k e → (∀ i e, (h : i < xs.length) → I (k + i) e → Always (NX (I (k + i + 1))) (b xs[i] e)) → Always (NX (I (k + xs.length))) (forL b xs e)
  | [], e, k, h, _ => ⟨e, rfl, h⟩
  | x :: xs, e, k, h, hb => by
    unfold forL
    refine (hb 0 e (by simp) h).bind ?_
    rintro f ⟨e1, rfl, h1⟩
    have q := for_a (b := b) I (xs := xs) (e := e1) (k + 1) h1 fun i e' hi hI => by
      have := hb (i + 1) e' (by simpa using hi) (by rwa [show k + (i + 1) = k + 1 + i by omega])
      rwa [show k + (i + 1) + 1 = k + 1 + i + 1 by omega] at this
    rwa [show k + (x :: xs).length = k + 1 + xs.length by simp; omega]
theorem forR_a {b : D → Env → Res Fl} (I : Nat → Env → Prop) {n : Nat} {e : Env} (h0 : I 0 e) (hb : ∀ i e, i < n → I i e → Always (NX (I (i + 1))) (b (nD i) e)) : Always (NX (I n)) (forL b ((List.range n).map nD) e) := by
  have q := for_a (b := b) (xs := (List.range n).map nD) (e := e) I 0 h0 fun i e' hi hI => by
    have hi' : i < n := by simpa using hi
    have := hb i e' hi' (by rwa [Nat.zero_add] at hI)
    rw [Nat.zero_add]
    simpa using this
  rwa [Nat.zero_add, List.length_map, List.length_range] at q
theorem irng_n {a : EM} {e : Env} {n : Nat} (h : a e = .ok (nD n)) (hn : n ≤ 1000) : irng1 a e = .ok ((List.range n).map nD) := irng1_nat h (rng_lt hn)
theorem for_s {P : Fl → Prop} {I : Env → Prop} {it : IM} {g : GM} {b r : SM} {e : Env} {xs : List D} (h : it e = .ok xs) (hb : Always (NX I) (forL (forB g b) xs e)) (k : ∀ e', I e' → Always P (r e')) : Always P (seq (for_ it g b) r e) := by
  refine seq_a (I := I) ?_ k
  rw [for_eq, h, bind_ok]
  exact hb
/-! ### comprehensions of numbers -/
end Py.U
/-! Classes of states and the least machine, as data. -/
namespace Py.U
theorem wh_next {t : TM} {b : SM} {n : Nat} {e e' : Env} (h : t e = .ok true) (hb : b e = .ok (.next e')) : whileL t b (n + 1) e = whileL t b n e' := by
  show (t e >>= _) = _
  rw [h, bind_ok, if_pos rfl, hb, bind_ok]
theorem wh_stop {t : TM} {b : SM} {n : Nat} {e : Env} (h : t e = .ok false) : whileL t b (n + 1) e = .ok (.next e) := by
  show (t e >>= _) = _
  rw [h, bind_ok, if_neg (by decide)]
/-! ### tables -/
def at1 (bs : List Nat) (a : Nat) : Nat := bs.getD a 0
def rw1 (t : List (List Nat)) (i : Nat) : List Nat := t.getD i []
/-- a table of S lines, each of L numbers below B -/
structure Tbl (S L B : Nat) (t : List (List Nat)) : Prop where
  len : t.length = S
  row : ∀ r ∈ t, r.length = L ∧ ∀ x ∈ r, x < B
theorem Tbl.at {S L B : Nat} {t : List (List Nat)} (h : Tbl S L B t) {i : Nat} (hi : i < S) : t[i]? = some (rw1 t i) ∧ (rw1 t i).length = L ∧ ∀ x ∈ rw1 t i, x < B := by
  have hl : i < t.length := by rw [h.len]; exact hi
  obtain ⟨h1, h2⟩ := h.row t[i] (List.getElem_mem hl)
  have e : rw1 t i = t[i] := by
    unfold rw1
    rw [List.getD_eq_getElem?_getD, List.getElem?_eq_getElem hl]
    rfl
  rw [e]
  exact ⟨List.getElem?_eq_getElem hl, h1, h2⟩
theorem idx_nL {c : List Nat} {i : Nat} (h : i < c.length) : oidx (.lst (c.map nD)) (nD i) = .ok (nD (at1 c i)) := by
  refine oidx_l ?_
  simp [at1, h]
theorem idx_nT {c : List Nat} {i : Nat} (h : i < c.length) : oidx (rD c) (nD i) = .ok (nD (at1 c i)) := by
  refine oidx_t ?_
  simp [at1, h]
theorem lenN {α : Type} (l : List α) (f : α → D) : blen (.lst (l.map f)) = .ok (nD l.length) := by
  rw [blen_l, List.length_map]
  rfl
theorem lenT {α : Type} (l : List α) (f : α → D) : blen (.tup (l.map f)) = .ok (nD l.length) := by
  rw [blen_t, List.length_map]
  rfl
/-! ### the greatest number -/
theorem nat_eqN (a b : Nat) : oeq (nD a) (nD b) = .ok (.bl (decide (a = b))) := by
  show oeq (.int (a : Int)) (.int (b : Int)) = _
  rw [oeq_ii]
  by_cases h : a = b
  · subst h; simp
  · have : ¬ ((a : Int) = (b : Int)) := by omega
    simp [h, this]
/-! ### classes -/
end Py.U
/-! The search by levels, as data: the program's form and the laws' form. -/
namespace Py.U
section
variable {S L : Nat} {nx : List (List Nat)} {cls : List Nat}
/-! ### the program's form -/
theorem oltN (a b : Nat) : olt (nD a) (nD b) = .ok (.bl (decide (a < b))) := by
  show olt (.int (a : Int)) (.int (b : Int)) = _
  rw [olt_ii]
  congr 2
  exact decide_eq_decide.mpr (by omega)
end
end Py.U
/-! The laws' form of the least machine. -/
/-! What a machine writes; the least machine writes the same; closures of searches. No program in sight. -/
namespace Py.U
/-! ### what is written -/
def wr (nx os : List (List Nat)) (s : Nat) : List Nat → List Nat
  | [] => []
  | l :: ls => at1 (rw1 os s) l :: wr nx os (at1 (rw1 nx s) l) ls
section
variable {S L : Nat} {nx os : List (List Nat)}
theorem at1_mem {r : List Nat} {l : Nat} (h : l < r.length) : at1 r l ∈ r := by
  unfold at1
  rw [List.getD_eq_getElem?_getD, List.getElem?_eq_getElem h]
  exact List.getElem_mem h
end
/-! ### closures -/
section
variable {α : Type} [DecidableEq α]
def cloL (succ : α → List α) : Nat → List α → Nat → List α
  | 0, f, _ => f
  | k + 1, f, a => match f[a]? with
    | some p => cloL succ k ((succ p).foldl addU f) (a + 1)
    | none => f
theorem addU_pre (f : List α) (t : α) : ∃ r, addU f t = f ++ r := by
  unfold addU
  split
  · exact ⟨[], by simp⟩
  · exact ⟨[t], rfl⟩
theorem foldU_pre : ∀ (ts f : List α), ∃ r, ts.foldl addU f = f ++ r
  | [], f => ⟨[], by simp⟩
  | t :: ts, f => by
    obtain ⟨r, hr⟩ := addU_pre f t
    obtain ⟨r2, hr2⟩ := foldU_pre ts (f ++ r)
    exact ⟨r ++ r2, by rw [List.foldl_cons, hr, hr2, List.append_assoc]⟩
variable {succ : α → List α}
theorem clo_pre : ∀ (k : Nat) (f : List α) (a : Nat), ∃ r, cloL succ k f a = f ++ r
  | 0, f, a => ⟨[], by simp [cloL]⟩
  | k + 1, f, a => by
    rw [cloL]
    split
    · rename_i p _
      obtain ⟨r, hr⟩ := foldU_pre (succ p) f
      obtain ⟨r2, hr2⟩ := clo_pre k ((succ p).foldl addU f) (a + 1)
      exact ⟨r ++ r2, by rw [hr2, hr, List.append_assoc]⟩
    · exact ⟨[], by simp⟩
/-- the successors of the first a are found -/
def CldU (succ : α → List α) (f : List α) (a : Nat) : Prop := ∀ i p, i < a → f[i]? = some p → ∀ q ∈ succ p, q ∈ f
structure FndU (P : α → Prop) (f : List α) : Prop where
  nd : f.Nodup
  all : ∀ p ∈ f, P p
theorem FndU.step {P : α → Prop} (hP : ∀ p, P p → ∀ q ∈ succ p, P q) {f : List α} (h : FndU P f) {p : α} (hp : P p) : FndU P ((succ p).foldl addU f) ∧ ∀ q ∈ succ p, q ∈ (succ p).foldl addU f := by
  obtain ⟨h1, h2⟩ := foldU (succ p) f h.nd
  refine ⟨⟨h1, fun x hx => ?_⟩, fun q hq => (h2 q).mpr (.inr hq)⟩
  rcases (h2 x).mp hx with q | q
  · exact h.all x q
  · exact hP p hp x q
theorem CldU.step {f : List α} {a : Nat} (h : CldU succ f a) {p : α} (hp : f[a]? = some p) : CldU succ ((succ p).foldl addU f) (a + 1) := fun i x hi hx q hq => by
  obtain ⟨r, hr⟩ := foldU_pre (succ p) f
  have ha : a < f.length := by
    by_cases c : a < f.length
    · exact c
    · rw [List.getElem?_eq_none (by omega)] at hp
      cases hp
  rw [hr] at hx ⊢
  rw [List.getElem?_append_left (by omega)] at hx
  by_cases e : i = a
  · subst e
    rw [hp] at hx
    cases hx
    rw [← hr]
    have : ∀ (ts f : List α) (q : α), q ∈ ts → q ∈ ts.foldl addU f := by
      intro ts
      induction ts with
      | nil => intro f q h; cases h
      | cons t ts ih =>
        intro f q h
        rw [List.foldl_cons]
        rcases List.mem_cons.mp h with rfl | h
        · obtain ⟨r, hr⟩ := foldU_pre ts (addU f q)
          rw [hr]
          exact List.mem_append_left _ (mem_addU.mpr (.inr rfl))
        · exact ih _ q h
    exact this _ _ _ hq
  · exact List.mem_append_left _ (h i x (by omega) hx q hq)
theorem clo_ok {P : α → Prop} (hP : ∀ p, P p → ∀ q ∈ succ p, P q) {U : List α} (hU : ∀ p, P p → p ∈ U) : ∀ (k : Nat) (f : List α) (a : Nat), FndU P f → CldU succ f a → a ≤ f.length → U.length ≤ a + k → FndU P (cloL succ k f a) ∧ CldU succ (cloL succ k f a) (cloL succ k f a).length ∧ (cloL succ k f a).length ≤ U.length
  | 0, f, a, h, hc, ha, hk => by
    have l := h.nd.length_le_of_subset fun p hp => hU p (h.all p hp)
    have e : f.length = a := by omega
    rw [cloL]
    exact ⟨h, by rw [e]; exact hc, l⟩
  | k + 1, f, a, h, hc, ha, hk => by
    have l := h.nd.length_le_of_subset fun p hp => hU p (h.all p hp)
    rw [cloL]
    split
    · rename_i p hp
      obtain ⟨h1, h2⟩ := h.step hP (h.all p (List.mem_of_getElem? hp))
      have hlt : a < f.length := by
        by_cases c : a < f.length
        · exact c
        · rw [List.getElem?_eq_none (by omega)] at hp
          cases hp
      obtain ⟨r, hr⟩ := foldU_pre (succ p) f
      exact clo_ok hP hU k _ (a + 1) h1 (hc.step hp) (by rw [hr, List.length_append]; omega) (by omega)
    · rename_i hn
      have hlt : ¬ a < f.length := fun c => by
        rw [List.getElem?_eq_getElem c] at hn
        cases hn
      have e : f.length = a := by omega
      exact ⟨h, by rw [e]; exact hc, l⟩
end
end Py.U
/-! The least of the least machine is itself. -/
/-! States apart are apart by a word shorter than the number of states. -/
namespace Py.U
section
variable {S L : Nat} {nx os : List (List Nat)}
def Eqw (L : Nat) (nx os : List (List Nat)) (j s s' : Nat) : Prop := ∀ w : List Nat, w.length ≤ j → (∀ l ∈ w, l < L) → wr nx os s w = wr nx os s' w
theorem Eqw.mono {j j' s s' : Nat} (h : Eqw L nx os j s s') (hj : j' ≤ j) : Eqw L nx os j' s s' := fun w hw hl => h w (by omega) hl
end
end Py.U
/-! A search by levels over pairs of states, with the ways to them. No program in sight. -/
namespace Py.U
abbrev P2 := Nat × Nat
/-- a found pair, the way to it, the reading that leads to it -/
abbrev Nd := P2 × Option (P2 × Nat) × List Nat
def addG (p : P2) (r : List Nat) (f : List Nd) (g : Nat × P2) : List Nd := if g.2 ∈ f.map (·.1) then f else f ++ [(g.2, some (p, g.1), r ++ [g.1])]
def stepG (f : List Nd) (n : Nd) (gs : List (Nat × P2)) : List Nd := gs.foldl (addG n.1 n.2.2) f
theorem stepG_char (n : Nd) : ∀ (gs : List (Nat × P2)) (f : List Nd), (f.map (·.1)).Nodup → ∃ r, stepG f n gs = f ++ r ∧ ((f ++ r).map (·.1)).Nodup ∧ (∀ x ∈ r, ∃ l, (l, x.1) ∈ gs ∧ x = (x.1, some (n.1, l), n.2.2 ++ [l])) ∧ ∀ g ∈ gs, g.2 ∈ (f ++ r).map (·.1)
  | [], f, h => ⟨[], by simp [stepG], by simpa using h, by simp, by simp⟩
  | g :: gs, f, h => by
    unfold stepG
    rw [List.foldl_cons]
    by_cases c : g.2 ∈ f.map (·.1)
    · have e : addG n.1 n.2.2 f g = f := if_pos c
      rw [e]
      obtain ⟨r, h1, h2, h3, h4⟩ := stepG_char n gs f h
      refine ⟨r, h1, h2, fun x hx => ?_, fun y hy => ?_⟩
      · obtain ⟨l, a, b⟩ := h3 x hx
        exact ⟨l, List.mem_cons_of_mem _ a, b⟩
      · rcases List.mem_cons.mp hy with rfl | hy
        · rw [List.map_append]
          exact List.mem_append_left _ c
        · exact h4 y hy
    · have e : addG n.1 n.2.2 f g = f ++ [(g.2, some (n.1, g.1), n.2.2 ++ [g.1])] := if_neg c
      rw [e]
      have hn : ((f ++ [(g.2, some (n.1, g.1), n.2.2 ++ [g.1])]).map (·.1)).Nodup := by
        rw [List.map_append, List.nodup_append]
        refine ⟨h, by simp, fun a ha b hb => ?_⟩
        rw [List.map_singleton] at hb
        rw [List.mem_singleton.mp hb]
        rintro rfl
        exact c ha
      obtain ⟨r, h1, h2, h3, h4⟩ := stepG_char n gs _ hn
      refine ⟨(g.2, some (n.1, g.1), n.2.2 ++ [g.1]) :: r, ?_, ?_, fun x hx => ?_, fun y hy => ?_⟩
      · refine h1.trans ?_
        rw [List.append_assoc]
        rfl
      · rw [List.append_assoc] at h2
        exact h2
      · rcases List.mem_cons.mp hx with rfl | hx
        · exact ⟨g.1, List.mem_cons_self, rfl⟩
        · obtain ⟨l, a, b⟩ := h3 x hx
          exact ⟨l, List.mem_cons_of_mem _ a, b⟩
      · rcases List.mem_cons.mp hy with rfl | hy
        · simp
        · have := h4 y hy
          rw [List.append_assoc] at this
          exact this
structure Wf (gs : P2 → List (Nat × P2)) (b : P2) (f : List Nd) (a : Nat) : Prop where
  nd : (f.map (·.1)).Nodup
  hd : f[0]? = some (b, none, [])
  par : ∀ (j : Nat) (n : Nd), f[j]? = some n → j = 0 ∨ ∃ (i : Nat) (m : Nd) (l : Nat), i < j ∧ i < a ∧ f[i]? = some m ∧ n = (n.1, some (m.1, l), m.2.2 ++ [l]) ∧ (l, n.1) ∈ gs m.1
  clo : ∀ (i : Nat) (n : Nd), i < a → f[i]? = some n → ∀ g ∈ gs n.1, ∃ (j : Nat) (m : Nd), f[j]? = some m ∧ m.1 = g.2 ∧ m.2.2.length ≤ n.2.2.length + 1
  mono : ∀ (i j : Nat) (m n : Nd), i ≤ j → f[i]? = some m → f[j]? = some n → m.2.2.length ≤ n.2.2.length
  top : ∀ (i : Nat) (n m : Nd), f[a]? = some n → f[i]? = some m → m.2.2.length ≤ n.2.2.length + 1
theorem Wf.step {gs : P2 → List (Nat × P2)} {b : P2} {f : List Nd} {a : Nat} (h : Wf gs b f a) {n : Nd} (hn : f[a]? = some n) : Wf gs b (stepG f n (gs n.1)) (a + 1) := by
  obtain ⟨r, e, h2, h3, h4⟩ := stepG_char n (gs n.1) f h.nd
  rw [e]
  have ha : a < f.length := (List.getElem?_eq_some_iff.mp hn).1
  have old : ∀ (j : Nat) (m : Nd), (f ++ r)[j]? = some m → (j < f.length ∧ f[j]? = some m) ∨ (f.length ≤ j ∧ m ∈ r ∧ m.2.2.length = n.2.2.length + 1) := fun j m hm => by
    by_cases c : j < f.length
    · rw [List.getElem?_append_left c] at hm
      exact .inl ⟨c, hm⟩
    · rw [List.getElem?_append_right (by omega)] at hm
      have hr := List.mem_of_getElem? hm
      obtain ⟨l, _, q⟩ := h3 m hr
      refine .inr ⟨by omega, hr, ?_⟩
      rw [q]
      simp
  have new : ∀ {j : Nat} {m : Nd}, f[j]? = some m → (f ++ r)[j]? = some m := fun {j m} hm => by
    rw [List.getElem?_append_left (List.getElem?_eq_some_iff.mp hm).1]
    exact hm
  have all : ∀ (j : Nat) (m : Nd), (f ++ r)[j]? = some m → m.2.2.length ≤ n.2.2.length + 1 := fun j m hm => by
    rcases old j m hm with ⟨_, q⟩ | ⟨_, _, q⟩
    · exact h.top j n m hn q
    · omega
  refine ⟨h2, new h.hd, fun j m hm => ?_, fun i m hi hm g hg => ?_, fun i j m m' hij hm hm' => ?_, fun i m m' hm hm' => ?_⟩
  · rcases old j m hm with ⟨_, q⟩ | ⟨q1, q2, _⟩
    · rcases h.par j m q with q | ⟨i, m', l, i1, i2, i3, i4, i5⟩
      · exact .inl q
      · exact .inr ⟨i, m', l, i1, by omega, new i3, i4, i5⟩
    · obtain ⟨l, x1, x2⟩ := h3 m q2
      exact .inr ⟨a, n, l, by omega, by omega, new hn, x2, x1⟩
  · by_cases c : i = a
    · subst c
      have e2 : m = n := Option.some.inj (hm.symm.trans (new hn))
      subst e2
      obtain ⟨m', x1, x2⟩ := List.mem_map.mp (h4 g hg)
      obtain ⟨j, hj, rfl⟩ := List.mem_iff_getElem.mp x1
      exact ⟨j, _, List.getElem?_eq_getElem hj, x2, all j _ (List.getElem?_eq_getElem hj)⟩
    · have hi2 : i < a := by omega
      rcases old i m hm with ⟨_, q⟩ | ⟨q, _⟩
      · obtain ⟨j, m', x1, x2, x3⟩ := h.clo i m hi2 q g hg
        exact ⟨j, m', new x1, x2, x3⟩
      · omega
  · rcases old i m hm with ⟨_, q⟩ | ⟨q, _, q3⟩
    · rcases old j m' hm' with ⟨_, q'⟩ | ⟨_, _, q'⟩
      · exact h.mono i j m m' hij q q'
      · have := h.top i n m hn q
        omega
    · rcases old j m' hm' with ⟨q', _⟩ | ⟨_, _, q'⟩
      · omega
      · omega
  · have l1 := all i m' hm'
    have : n.2.2.length ≤ m.2.2.length := by
      rcases old (a + 1) m hm with ⟨_, q⟩ | ⟨_, _, q⟩
      · exact h.mono a (a + 1) n m (by omega) hn q
      · omega
    omega
/-! ### readings lead to the pairs -/
section
variable {L : Nat} {nx1 os1 nx2 os2 : List (List Nat)}
def stW (nx : List (List Nat)) (s : Nat) (w : List Nat) : Nat := w.foldl (fun s l => at1 (rw1 nx s) l) s
theorem stW_snoc (nx : List (List Nat)) (s : Nat) (w : List Nat) (l : Nat) : stW nx s (w ++ [l]) = at1 (rw1 nx (stW nx s w)) l := by
  unfold stW
  rw [List.foldl_append]
  rfl
def runP (nx1 nx2 : List (List Nat)) (b : P2) (w : List Nat) : P2 := (stW nx1 b.1 w, stW nx2 b.2 w)
def gsP (L : Nat) (nx1 nx2 : List (List Nat)) (p : P2) : List (Nat × P2) := (List.range L).map fun l => (l, (at1 (rw1 nx1 p.1) l, at1 (rw1 nx2 p.2) l))
theorem mem_gsP {p g : P2} {l : Nat} : (l, g) ∈ gsP L nx1 nx2 p ↔ l < L ∧ g = (at1 (rw1 nx1 p.1) l, at1 (rw1 nx2 p.2) l) := by
  unfold gsP
  constructor
  · intro h
    obtain ⟨x, hx, e⟩ := List.mem_map.mp h
    have := List.mem_range.mp hx
    cases e
    exact ⟨this, rfl⟩
  · rintro ⟨h, rfl⟩
    exact List.mem_map.mpr ⟨l, List.mem_range.mpr h, rfl⟩
theorem Wf.lead {b : P2} {f : List Nd} {a : Nat} (h : Wf (gsP L nx1 nx2) b f a) : ∀ (j : Nat) (n : Nd), f[j]? = some n → runP nx1 nx2 b n.2.2 = n.1 ∧ ∀ l ∈ n.2.2, l < L := by
  intro j
  induction j using Nat.strongRecOn with
  | ind j ih =>
    intro n hn
    rcases h.par j n hn with rfl | ⟨i, m, l, i1, i2, i3, i4, i5⟩
    · have := Option.some.inj (hn.symm.trans h.hd)
      subst this
      exact ⟨rfl, by simp⟩
    · obtain ⟨q1, q2⟩ := ih i i1 m i3
      obtain ⟨g1, g2⟩ := mem_gsP.mp i5
      have er : n.2.2 = m.2.2 ++ [l] := by rw [i4]
      rw [er]
      refine ⟨?_, fun x hx => ?_⟩
      · rw [g2]
        unfold runP at q1 ⊢
        rw [stW_snoc, stW_snoc, ← q1]
      · rcases List.mem_append.mp hx with c | c
        · exact q2 x c
        · rw [List.mem_singleton.mp c]
          exact g1
end
end Py.U
/-! The two searches over pairs find the same. -/
/-! The first reading by which two states are apart. -/
namespace Py.U
section
variable {S1 S2 L B : Nat} {nx1 os1 nx2 os2 : List (List Nat)}
theorem stW_lt {S : Nat} {nx : List (List Nat)} (h : Tbl S L S nx) : ∀ (w : List Nat) (s : Nat), s < S → (∀ l ∈ w, l < L) → stW nx s w < S
  | [], s, hs, _ => hs
  | l :: w, s, hs, hl => stW_lt h w (at1 (rw1 nx s) l) ((h.at hs).2.2 _ (at1_mem (by rw [(h.at hs).2.1]; exact hl l List.mem_cons_self))) fun x hx => hl x (List.mem_cons_of_mem _ hx)
theorem Wf.lt (h1 : Tbl S1 L S1 nx1) (h2 : Tbl S2 L S2 nx2) {b : P2} (hb : b.1 < S1 ∧ b.2 < S2) {f : List Nd} {a : Nat} (h : Wf (gsP L nx1 nx2) b f a) {n : Nd} (hn : n ∈ f) : n.1.1 < S1 ∧ n.1.2 < S2 := by
  obtain ⟨j, hj, rfl⟩ := List.mem_iff_getElem.mp hn
  obtain ⟨q1, q2⟩ := h.lead j _ (List.getElem?_eq_getElem hj)
  rw [← q1]
  exact ⟨stW_lt h1 _ _ hb.1 q2, stW_lt h2 _ _ hb.2 q2⟩
theorem all_pairs (S1 S2 : Nat) : ((List.range S1).flatMap fun i => (List.range S2).map fun j => (i, j)).length = S1 * S2 := by
  rw [List.length_flatMap]
  have : (List.range S1).map (fun a => ((List.range S2).map fun j => (a, j)).length) = List.replicate S1 S2 := by
    apply List.ext_getElem <;> simp
  rw [this]
  simp
theorem Wf.size (h1 : Tbl S1 L S1 nx1) (h2 : Tbl S2 L S2 nx2) {b : P2} (hb : b.1 < S1 ∧ b.2 < S2) (f : List Nd) (a : Nat) (h : Wf (gsP L nx1 nx2) b f a) : f.length ≤ S1 * S2 := by
  have q := h.nd.length_le_of_subset (l₂ := (List.range S1).flatMap fun i => (List.range S2).map fun j => (i, j)) fun p hp => by
    obtain ⟨n, hn, rfl⟩ := List.mem_map.mp hp
    obtain ⟨a1, a2⟩ := h.lt h1 h2 hb hn
    exact List.mem_flatMap.mpr ⟨n.1.1, List.mem_range.mpr a1, List.mem_map.mpr ⟨n.1.2, List.mem_range.mpr a2, rfl⟩⟩
  rw [all_pairs, List.length_map] at q
  exact q
/-! ### both exchanged -/
end
end Py.U
/-! The dict of the ways to pairs, as data. -/
/-! How long the readings found are. -/
/-! Words of numbers, bit by bit. -/
namespace Py.U
def bt (n p : Nat) : Nat := n / 2 ^ p % 2
theorem bt01 (n p : Nat) : bt n p = 0 ∨ bt n p = 1 := by
  unfold bt
  omega
theorem bt_tb (n p : Nat) : bt n p = if n.testBit p then 1 else 0 := by
  rw [Nat.testBit_eq_decide_div_mod_eq]
  unfold bt
  by_cases h : n / 2 ^ p % 2 = 1
  · simp [h]
  · simp [h]
    omega
theorem bt_zero (p : Nat) : bt 0 p = 0 := by
  unfold bt
  rw [Nat.zero_div]
theorem mod_succ2 (n p : Nat) : n % 2 ^ (p + 1) = n % 2 ^ p + 2 ^ p * bt n p := by
  unfold bt
  rw [Nat.pow_succ, Nat.mod_mul]
theorem bt_ones {w p : Nat} (h : p < w) : bt (2 ^ w - 1) p = 1 := by
  rw [bt_tb, Nat.testBit_two_pow_sub_one]
  simp [h]
theorem bt_and (x y p : Nat) : bt (x &&& y) p = if bt x p + bt y p = 2 then 1 else 0 := by
  rw [bt_tb, bt_tb, bt_tb, Nat.testBit_and]
  cases x.testBit p <;> cases y.testBit p <;> simp
theorem bt_or (x y p : Nat) : bt (x ||| y) p = if 0 < bt x p + bt y p then 1 else 0 := by
  rw [bt_tb, bt_tb, bt_tb, Nat.testBit_or]
  cases x.testBit p <;> cases y.testBit p <;> simp
theorem bt_xor (x y p : Nat) : bt (x ^^^ y) p = if bt x p = bt y p then 0 else 1 := by
  rw [bt_tb, bt_tb, bt_tb, Nat.testBit_xor]
  cases x.testBit p <;> cases y.testBit p <;> simp
/-! ### sums -/
/-! ### differences -/
end Py.U
/-! Lanes: numbers whose bits stand for many places at once. No program in sight. -/
namespace Py.U
theorem bt_high {x w p : Nat} (h : x < 2 ^ w) (hp : w ≤ p) : bt x p = 0 := by
  rw [bt_tb, Nat.testBit_lt_two_pow (Nat.lt_of_lt_of_le h (Nat.pow_le_pow_right (by decide) hp))]
  rfl
theorem add_bits {x a b : Nat} (h : ∀ p, bt x p = bt a p + bt b p) : x = a + b := by
  have key : ∀ w, x % 2 ^ w = a % 2 ^ w + b % 2 ^ w := fun w => by
    induction w with
    | zero => simp [Nat.mod_one]
    | succ w ih =>
      rw [mod_succ2, mod_succ2, mod_succ2, ih, h w, Nat.mul_add]
      omega
  have l := key (x + a + b)
  have lt : ∀ n m : Nat, n ≤ m → n % 2 ^ m = n := fun n m hnm => Nat.mod_eq_of_lt (Nat.lt_of_lt_of_le Nat.lt_two_pow_self (Nat.pow_le_pow_right (by decide) hnm))
  rwa [lt x _ (by omega), lt a _ (by omega), lt b _ (by omega)] at l
theorem bt_diff (x y p : Nat) : bt (x - (x &&& y)) p = if bt y p = 0 then bt x p else 0 := by
  have e : x = (x &&& y) + (x ^^^ (x &&& y)) := add_bits fun p => by
    rw [bt_xor, bt_and]
    rcases bt01 x p with h | h <;> rcases bt01 y p with h' | h' <;> simp [h, h']
  have e2 : x - (x &&& y) = x ^^^ (x &&& y) := by
    have := e
    omega
  rw [e2, bt_xor, bt_and]
  rcases bt01 x p with h | h <;> rcases bt01 y p with h' | h' <;> simp [h, h']
theorem bt_shl (x k p : Nat) : bt (x * 2 ^ k) p = if k ≤ p then bt x (p - k) else 0 := by
  rw [bt_tb, bt_tb, Nat.testBit_mul_two_pow]
  by_cases h : k ≤ p <;> simp [h]
theorem bt_block (L k p : Nat) : bt ((2 ^ L - 1) * 2 ^ k) p = if k ≤ p ∧ p < k + L then 1 else 0 := by
  rw [bt_shl]
  by_cases h : k ≤ p
  · rw [if_pos h]
    by_cases h2 : p < k + L
    · rw [bt_ones (by omega), if_pos ⟨h, h2⟩]
    · rw [bt_high (w := L) (by have := Nat.two_pow_pos L; omega) (by omega), if_neg fun z => h2 z.2]
  · rw [if_neg h, if_neg fun z => h z.1]
theorem bt_glue {a b i p : Nat} (hb : b < 2 ^ i) : bt (b + a * 2 ^ i) p = if p < i then bt b p else bt a (p - i) := by
  have := Nat.testBit_two_pow_mul_add a hb p
  rw [bt_tb, bt_tb, bt_tb, show b + a * 2 ^ i = 2 ^ i * a + b by rw [Nat.mul_comm]; omega, this]
  by_cases h : p < i <;> simp [h]
/-! ### one block many times -/
def rpt (L M : Nat) : Nat := (2 ^ (L * M) - 1) / (2 ^ L - 1)
theorem rpt_succ {L : Nat} (hL : 0 < L) (M : Nat) : rpt L (M + 1) = rpt L M + 2 ^ (L * M) := by
  unfold rpt
  have h1 : 2 ≤ 2 ^ L := by
    have := Nat.pow_le_pow_right (n := 2) (by decide) hL
    simpa using this
  have h2 := Nat.two_pow_pos (L * M)
  have e : 2 ^ (L * (M + 1)) - 1 = (2 ^ (L * M) - 1) + 2 ^ (L * M) * (2 ^ L - 1) := by
    rw [Nat.mul_succ, Nat.pow_add, Nat.mul_sub, Nat.mul_one]
    have : 2 ^ (L * M) ≤ 2 ^ (L * M) * 2 ^ L := Nat.le_mul_of_pos_right _ (Nat.two_pow_pos L)
    omega
  rw [e, Nat.add_mul_div_right _ _ (by omega)]
theorem rpt_lt {L b : Nat} (hL : 0 < L) (hb : b < 2 ^ L) (M : Nat) : b * rpt L M < 2 ^ (L * M) := by
  have h1 : b ≤ 2 ^ L - 1 := by omega
  have h2 : (2 ^ L - 1) * rpt L M ≤ 2 ^ (L * M) - 1 := Nat.mul_div_le _ _
  have h3 := Nat.two_pow_pos (L * M)
  have := Nat.mul_le_mul_right (rpt L M) h1
  omega
theorem bt_rpt {L b : Nat} (hL : 0 < L) (hb : b < 2 ^ L) : ∀ (M p : Nat), p < L * M → bt (b * rpt L M) p = bt b (p % L)
  | 0, p, h => by omega
  | M + 1, p, h => by
    rw [rpt_succ hL, Nat.mul_add, bt_glue (rpt_lt hL hb M)]
    by_cases c : p < L * M
    · rw [if_pos c, bt_rpt hL hb M p c]
    · rw [if_neg c]
      have e : p % L = p - L * M := by
        have : p = (p - L * M) + L * M := by omega
        rw [this, Nat.add_mul_mod_self_left, Nat.mod_eq_of_lt (by rw [Nat.mul_succ] at h; omega)]
        omega
      rw [e]
end Py.U
namespace Py.U
open PySem
theorem nat_eq (a b : Nat) : oeq (nD a) (nD b) = .ok (.bl (decide (a = b))) := by
  unfold nD
  rw [oeq_ii]
  congr 2
  rw [Bool.eq_iff_iff]
  simp only [beq_iff_eq, decide_eq_true_eq]
  exact Int.ofNat_inj
theorem str_eq (a b : String) : oeq (.str a) (.str b) = .ok (.bl (a == b)) := rfl
theorem nadd (a b : Nat) : oadd (nD a) (nD b) = .ok (nD (a + b)) := by
  unfold nD
  rw [oadd_ii]
  rfl
theorem enum_at {ds : List D} {k i : Nat} (h : i < (enumL k ds).length) (h2 : i < ds.length) : (enumL k ds)[i] = .tup [.int ((k + i : Nat) : Int), ds[i]] := by
  induction ds generalizing k i with
  | nil => simp at h2
  | cons d ds ih =>
    cases i with
    | zero => rfl
    | succ i =>
      simp only [enumL, List.getElem_cons_succ]
      rw [ih (k := k + 1) _ (by simpa using h2)]
      rw [show k + 1 + i = k + (i + 1) by omega]
theorem enum_len : ∀ (ds : List D) (k : Nat), (enumL k ds).length = ds.length
  | [], _ => rfl
  | d :: ds, k => by
    simp only [enumL, List.length_cons]
    rw [enum_len ds]
theorem isint_ok (n : Nat) : m_is_integer [nD n] = .ok (.bl true) := by
  have h1 : oisi CS [.int] (nD n) = .ok (.bl true) := rfl
  have h2 : oisi CS [.bl] (nD n) = .ok (.bl false) := rfl
  unfold m_is_integer
  rw [fn1]
  unfold b_is_integer
  generalize nD n = N at *
  simp [var, h1, h2]
theorem is_below_ok (a b : Nat) : m_is_below [nD a, nD b] = .ok (.bl (decide (a < b))) := by
  have h := isint_ok a
  have h1 : ole (.int 0) (nD a) = .ok (.bl true) := by
    unfold nD
    rw [ole_ii, decide_eq_true (by omega)]
  have h2 : olt (nD a) (nD b) = .ok (.bl (decide (a < b))) := by
    unfold nD
    rw [olt_ii]
    congr 2
    exact decide_eq_decide.mpr (by omega)
  unfold m_is_below
  rw [fn2]
  unfold b_is_below
  generalize nD a = A at *
  generalize nD b = B at *
  simp [var, h, h1, h2]
theorem shl_nD {n : Nat} (h : n ≤ 1000) : oshl (.int 1) (nD n) = .ok (nD (2 ^ n)) := by
  unfold nD
  rw [oshl1 n h]
  simp
/-! ### the same? -/
/-! ### the row is made -/
theorem inputs_ok {n : Nat} (h1 : 1 ≤ n) (h3 : n ≤ 3) : m_is_inputs [nD n] = .ok (.bl true) := by
  have : n = 1 ∨ n = 2 ∨ n = 3 := by omega
  rcases this with rfl | rfl | rfl <;> rfl
theorem made_eq {p n : Nat} {cls : String} {body : SM} {ds : List D} {c : String} {fs : List (String × D)} {r : Env} (hl : ds.length + 1 = p) (h : body ((some (.ins cls []) :: ds.map some) ++ List.replicate (n - p) none) = .ok (.next (some (.ins c fs) :: r))) : made p n cls body ds = .ok (.ins c fs) := by
  unfold made
  rw [if_pos hl, h]
  rfl
/-! ### numbers from nought -/
theorem nsub {a b : Nat} (h : b ≤ a) : osub (nD a) (nD b) = .ok (nD (a - b)) := by
  unfold nD
  rw [osub_ii]
  congr 2
  omega
/-! ### letters drawn -/
theorem chk_pass {c : TM} {r b : SM} {e : Env} (h : c e = .ok false) : seq (Py.ite c b skip) r e = r e := by
  refine seq_next ?_
  unfold Py.ite
  rw [h, bind_ok]
  rfl
theorem asg_pass {i : Nat} {m : EM} {r : SM} {e : Env} {d : D} (h : m e = .ok d) : seq (asg (gnm i) m) r e = r (e.set i (some d)) := by
  refine seq_next ?_
  rw [asg_eq, h]
  rfl
theorem for_pass {it : IM} {g : GM} {b r : SM} {e e' : Env} {xs : List D} (h : it e = .ok xs) (h2 : forL (forB g b) xs e = .ok (.next e')) : seq (for_ it g b) r e = r e' := by
  refine seq_next ?_
  rw [for_eq, h]
  exact h2
/-! ### deeds drawn -/
theorem nmul {a b : Nat} (h : a ≤ 1000) : omul (nD a) (nD b) = .ok (nD (a * b)) := by
  unfold nD
  rw [omul_l (by omega) (by omega)]
  simp
theorem as_tup (ds : List D) : m_as_tuple [.lst ds] = .ok (.tup ds) := by
  have h : oisi CS [.lst, .tup] (.lst ds) = .ok (.bl true) := rfl
  unfold m_as_tuple
  rw [fn1]
  unfold b_as_tuple
  simp [var, h]
end Py.U
namespace Py.U
open PySem
/-! ### deeds -/
inductive Deed where
  | zero | ones | inv (a : Nat) | and (a b : Nat) | or (a b : Nat) | xor (a b : Nat)
  | shift (a : Nat) | minus (a : Nat) | add (a b : Nat) | sub (a b : Nat) | count (p r : Nat) (ps : List Nat)
def Deed.d : Deed → D
  | .zero => .tup [.str "zero"]
  | .ones => .tup [.str "ones"]
  | .inv a => .tup [.str "not", nD a]
  | .and a b => .tup [.str "and", nD a, nD b]
  | .or a b => .tup [.str "or", nD a, nD b]
  | .xor a b => .tup [.str "xor", nD a, nD b]
  | .shift a => .tup [.str "shift", nD a]
  | .minus a => .tup [.str "minus", nD a]
  | .add a b => .tup [.str "add", nD a, nD b]
  | .sub a b => .tup [.str "sub", nD a, nD b]
  | .count p r ps => .tup [.str "count", nD p, nD r, .tup (ps.map nD)]
/-- its values stand ahead of n -/
def Deed.ok (n : Nat) : Deed → Prop
  | .zero => True
  | .ones => True
  | .inv a => a < n
  | .and a b => a < n ∧ b < n
  | .or a b => a < n ∧ b < n
  | .xor a b => a < n ∧ b < n
  | .shift a => a < n
  | .minus a => a < n
  | .add a b => a < n ∧ b < n
  | .sub a b => a < n ∧ b < n
  | .count p r ps => (p = 2 ∨ p = 3 ∨ p = 5) ∧ r < p ∧ 1 ≤ ps.length ∧ ps.length ≤ 4 ∧ ∀ a ∈ ps, a < n
/-! ### what deeds do, bit by bit -/
def at0 (bs : List Nat) (a : Nat) : Nat := bs.getD a 0
def tot (bs : List Nat) (ps : List Nat) : Nat := (ps.map (at0 bs)).sum
def Deed.marked : Deed → Bool
  | .shift _ => true
  | .minus _ => true
  | .add _ _ => true
  | .sub _ _ => true
  | .count _ _ _ => true
  | _ => false
def Deed.top : Deed → Nat
  | .count p _ _ => p
  | _ => 2
/-- the bit of a deed without a mark -/
def Deed.bit0 (bs : List Nat) : Deed → Nat
  | .ones => 1
  | .inv a => 1 - at0 bs a
  | .and a b => if at0 bs a + at0 bs b = 2 then 1 else 0
  | .or a b => if 0 < at0 bs a + at0 bs b then 1 else 0
  | .xor a b => if at0 bs a = at0 bs b then 0 else 1
  | _ => 0
/-- the bit and the next mark of a deed with a mark -/
def Deed.bit1 (bs : List Nat) (m : Nat) : Deed → Nat
  | .shift _ => m
  | .minus a => (at0 bs a + m) % 2
  | .add a b => (at0 bs a + at0 bs b + m) % 2
  | .sub a b => (at0 bs a + at0 bs b + m) % 2
  | .count _ r _ => if m = r then 1 else 0
  | _ => 0
def Deed.next (bs : List Nat) (m : Nat) : Deed → Nat
  | .shift a => at0 bs a
  | .minus a => if 1 ≤ at0 bs a + m then 1 else 0
  | .add a b => if 2 ≤ at0 bs a + at0 bs b + m then 1 else 0
  | .sub a b => if at0 bs a < at0 bs b + m then 1 else 0
  | .count p _ ps => (m + tot bs ps) % p
  | _ => 0
def Bits (bs : List Nat) : Prop := ∀ b ∈ bs, b = 0 ∨ b = 1
theorem at0_01 {bs : List Nat} (h : Bits bs) (a : Nat) : at0 bs a = 0 ∨ at0 bs a = 1 := by
  unfold at0
  by_cases q : a < bs.length
  · simp only [List.getD_eq_getElem?_getD, List.getElem?_eq_getElem q, Option.getD_some]
    exact h _ (List.getElem_mem q)
  · rw [List.getD_eq_getElem?_getD, List.getElem?_eq_none (by omega)]
    exact .inl rfl
theorem bits_at {bs : List Nat} {a : Nat} (h : a < bs.length) : oidx (.lst (bs.map nD)) (nD a) = .ok (nD (at0 bs a)) := by
  refine oidx_l (k := a) ?_
  unfold at0
  simp [h]
/-! the law's own bit -/
theorem ixt1 {a b : D} {r : List D} : oidx (.tup (a :: b :: r)) (.int 1) = .ok b := oidx_t (k := 1) rfl
theorem ixt0 {a : D} {r : List D} : oidx (.tup (a :: r)) (.int 0) = .ok a := oidx_t (k := 0) rfl
theorem ixt2 {a b c : D} {r : List D} : oidx (.tup (a :: b :: c :: r)) (.int 2) = .ok c := oidx_t (k := 2) rfl
theorem ixt3 {a b c d : D} {r : List D} : oidx (.tup (a :: b :: c :: d :: r)) (.int 3) = .ok d := oidx_t (k := 3) rfl
theorem nmod (a : Nat) {p : Nat} (h : 0 < p) : omod (nD a) (nD p) = .ok (nD (a % p)) := by
  unfold nD
  rw [omod_ii (by omega)]
  rfl
theorem bint_n (a : Nat) : bint (nD a) = .ok (nD a) := rfl
theorem bint_p (b : Bool) : bint (.bl b) = .ok (nD (if b then 1 else 0)) := by cases b <;> rfl
/-! ### all deeds of a row, at one place -/
abbrev St := List Nat × List Nat
def stp (ms : List Nat) (s : St) (x : Deed) : St :=
  if x.marked then (s.1 ++ [x.bit1 s.1 (ms.getD s.2.length 0)], s.2 ++ [x.next s.1 (ms.getD s.2.length 0)]) else (s.1 ++ [x.bit0 s.1], s.2)
def runD (ms bs : List Nat) (xs : List Deed) : St := xs.foldl (stp ms) (bs, [])
def tops (xs : List Deed) : List Nat := (xs.filter Deed.marked).map Deed.top
/-- marks below their numbers -/
def Fit : List Nat → List Nat → Prop
  | [], [] => True
  | m :: ms, t :: ts => m < t ∧ Fit ms ts
  | _, _ => False
theorem Fit.len : ∀ {ms ts : List Nat}, Fit ms ts → ms.length = ts.length
  | [], [], _ => rfl
  | m :: ms, t :: ts, h => congrArg (· + 1) (Fit.len h.2)
  | [], _ :: _, h => h.elim
  | _ :: _, [], h => h.elim
theorem Fit.at : ∀ {ms ts : List Nat} {j t : Nat}, Fit ms ts → ts[j]? = some t → ms.getD j 0 < t
  | [], [], _, _, _, h => by simp at h
  | m :: ms, t :: ts, 0, _, h, e => by
    simp at e
    subst e
    exact h.1
  | m :: ms, t :: ts, j + 1, _, h, e => by
    simp at e
    simpa using Fit.at (j := j) h.2 e
  | [], _ :: _, _, _, h, _ => h.elim
  | _ :: _, [], _, _, h, _ => h.elim
theorem Fit.snoc : ∀ {ms ts : List Nat} {m t : Nat}, Fit ms ts → m < t → Fit (ms ++ [m]) (ts ++ [t])
  | [], [], _, _, _, h => ⟨h, trivial⟩
  | m :: ms, t :: ts, _, _, h, h2 => ⟨h.1, Fit.snoc h.2 h2⟩
  | [], _ :: _, _, _, h, _ => h.elim
  | _ :: _, [], _, _, h, _ => h.elim
/-- the deeds' values stand ahead -/
def Row (n : Nat) (xs : List Deed) : Prop := ∀ k, (h : k < xs.length) → xs[k].ok (n + k)
theorem next_lt {bs : List Nat} (hb : Bits bs) {x : Deed} (hm : x.marked = true) {n : Nat} (hx : x.ok n) (m : Nat) : x.next bs m < x.top := by
  cases x with
  | shift a =>
    show at0 bs a < 2
    rcases at0_01 hb a with e | e <;> omega
  | minus a =>
    show (if 1 ≤ at0 bs a + m then 1 else 0) < 2
    split <;> omega
  | add a b =>
    show (if 2 ≤ at0 bs a + at0 bs b + m then 1 else 0) < 2
    split <;> omega
  | sub a b =>
    show (if at0 bs a < at0 bs b + m then 1 else 0) < 2
    split <;> omega
  | count p r ps =>
    obtain ⟨hp, hr, _⟩ := hx
    exact Nat.mod_lt _ (by omega)
  | _ => cases hm
theorem if01 {c : Prop} [Decidable c] : (if c then 1 else 0 : Nat) = 0 ∨ (if c then 1 else 0 : Nat) = 1 := by split <;> simp
theorem if01' {c : Prop} [Decidable c] : (if c then 0 else 1 : Nat) = 0 ∨ (if c then 0 else 1 : Nat) = 1 := by split <;> simp
theorem mod01 (a : Nat) : a % 2 = 0 ∨ a % 2 = 1 := by omega
theorem bit0_01 {bs : List Nat} (hb : Bits bs) (x : Deed) : x.bit0 bs = 0 ∨ x.bit0 bs = 1 := by
  cases x with
  | ones => exact .inr rfl
  | inv a =>
    show 1 - at0 bs a = 0 ∨ 1 - at0 bs a = 1
    omega
  | and a b => exact if01
  | or a b => exact if01
  | xor a b => exact if01'
  | _ => exact .inl rfl
theorem bit1_01 {bs : List Nat} (hb : Bits bs) (x : Deed) {m : Nat} (hm : m < x.top) : x.bit1 bs m = 0 ∨ x.bit1 bs m = 1 := by
  cases x with
  | shift a =>
    have h : m < 2 := hm
    show m = 0 ∨ m = 1
    omega
  | minus a => exact mod01 _
  | add a b => exact mod01 _
  | sub a b => exact mod01 _
  | count p r ps => exact if01
  | _ => exact .inl rfl
/-- where one stands behind k deeds -/
structure At (n : Nat) (ms : List Nat) (xs : List Deed) (k : Nat) (s : St) : Prop where
  bits : Bits s.1
  len : s.1.length = n + k
  fit : Fit s.2 (tops (xs.take k))
  eq : s = (xs.take k).foldl (stp ms) (s.1.take n, [])
theorem tops_snoc (xs : List Deed) (x : Deed) : tops (xs ++ [x]) = if x.marked then tops xs ++ [x.top] else tops xs := by
  unfold tops
  rw [List.filter_append, List.map_append]
  cases h : x.marked <;> simp [h]
theorem tops_at {xs : List Deed} {k : Nat} (h : k < xs.length) (hm : xs[k].marked = true) : (tops xs)[(tops (xs.take k)).length]? = some xs[k].top := by
  have e : xs = xs.take k ++ (xs[k] :: xs.drop (k + 1)) := by
    rw [← List.drop_eq_getElem_cons h, List.take_append_drop]
  have e2 : tops xs = tops (xs.take k) ++ (xs[k].top :: tops (xs.drop (k + 1))) := by
    unfold tops
    conv => lhs; rw [e]
    rw [List.filter_append, List.map_append, List.filter_cons, hm]
    rfl
  rw [e2, List.getElem?_append_right (Nat.le_refl _), Nat.sub_self]
  rfl
theorem At.step {n : Nat} {ms : List Nat} {xs : List Deed} {k : Nat} {s : St} (A : At n ms xs k s) (hf : Fit ms (tops xs)) (hr : Row n xs) (hk : k < xs.length) : At n ms xs (k + 1) (stp ms s xs[k]) := by
  have ht : xs.take (k + 1) = xs.take k ++ [xs[k]] := by
    rw [List.take_add_one]
    simp [hk]
  have hl := A.fit.len
  have hx := hr k hk
  rw [← A.len] at hx
  cases hm : xs[k].marked with
  | true =>
    have hlt : ms.getD s.2.length 0 < xs[k].top := by
      rw [hl]
      exact hf.at (tops_at hk hm)
    have e : stp ms s xs[k] = (s.1 ++ [xs[k].bit1 s.1 (ms.getD s.2.length 0)], s.2 ++ [xs[k].next s.1 (ms.getD s.2.length 0)]) := by
      unfold stp
      rw [hm]
      rfl
    refine ⟨?_, ?_, ?_, ?_⟩
    · rw [e]
      intro b hb
      rcases List.mem_append.mp hb with hb | hb
      · exact A.bits b hb
      · rw [List.mem_singleton.mp hb]
        exact bit1_01 A.bits _ hlt
    · rw [e]
      simp [A.len]
      omega
    · rw [e, ht, tops_snoc, hm]
      exact A.fit.snoc (next_lt A.bits hm hx _)
    · have e2 : (stp ms s xs[k]).1.take n = s.1.take n := by
        rw [e]
        exact List.take_append_of_le_length (by rw [A.len]; omega)
      rw [e2, ht, List.foldl_append, ← A.eq]
      rfl
  | false =>
    have e : stp ms s xs[k] = (s.1 ++ [xs[k].bit0 s.1], s.2) := by
      unfold stp
      rw [hm]
      rfl
    refine ⟨?_, ?_, ?_, ?_⟩
    · rw [e]
      intro b hb
      rcases List.mem_append.mp hb with hb | hb
      · exact A.bits b hb
      · rw [List.mem_singleton.mp hb]
        exact bit0_01 A.bits _
    · rw [e]
      simp [A.len]
      omega
    · rw [e, ht, tops_snoc, hm]
      exact A.fit
    · have e2 : (stp ms s xs[k]).1.take n = s.1.take n := by
        rw [e]
        exact List.take_append_of_le_length (by rw [A.len]; omega)
      rw [e2, ht, List.foldl_append, ← A.eq]
      rfl
def Deed.name : Deed → String
  | .zero => "zero"
  | .ones => "ones"
  | .inv _ => "not"
  | .and _ _ => "and"
  | .or _ _ => "or"
  | .xor _ _ => "xor"
  | .shift _ => "shift"
  | .minus _ => "minus"
  | .add _ _ => "add"
  | .sub _ _ => "sub"
  | .count _ _ _ => "count"
theorem deed_name (x : Deed) : oidx x.d (.int 0) = .ok (.str x.name) := by cases x <;> exact ixt0
/-- the bits of a letter -/
def lb (n letter : Nat) : List Nat := (List.range n).map fun k => letter / 2 ^ k % 2
theorem lb_bits (n letter : Nat) : Bits (lb n letter) := fun b hb => by
  obtain ⟨k, _, rfl⟩ := List.mem_map.mp hb
  omega
theorem lb_len (n letter : Nat) : (lb n letter).length = n := by simp [lb]
theorem bitN1 (l k : Nat) : oshr (nD l) (nD k) = .ok (nD (l / 2 ^ k)) := by
  unfold nD
  rw [oshr_nat]
  simp
theorem bitN2 (l : Nat) : oand (nD l) (.int 1) = .ok (nD (l % 2)) := by
  unfold nD
  rw [oand1]
  rfl
theorem At.all {n : Nat} {ms : List Nat} {xs : List Deed} {bs : List Nat} (hb : Bits bs) (hl : bs.length = n) (hf : Fit ms (tops xs)) (hr : Row n xs) : ∀ k, k ≤ xs.length → At n ms xs k ((xs.take k).foldl (stp ms) (bs, []))
  | 0, _ => ⟨hb, by simpa using hl, trivial, by simp [← hl]⟩
  | k + 1, h => by
    have A := At.all hb hl hf hr k (by omega)
    have hk : k < xs.length := h
    have ht : (xs.take (k + 1)).foldl (stp ms) (bs, []) = stp ms ((xs.take k).foldl (stp ms) (bs, [])) xs[k] := by
      rw [List.take_add_one, List.foldl_append]
      simp [hk]
    rw [ht]
    exact A.step hf hr hk
theorem runD_at {n : Nat} {ms : List Nat} {xs : List Deed} (l : Nat) (hf : Fit ms (tops xs)) (hr : Row n xs) (hz : n + xs.length ≤ 1000) : At n ms xs xs.length (runD ms (lb n l) xs) := by
  have A := At.all (lb_bits n l) (lb_len n l) hf hr xs.length (Nat.le_refl _)
  rw [List.take_length] at A
  exact A
end Py.U
namespace Py.U
open PySem
/-! ### the program's side: lanes of one place -/
theorem b10 : Builtin.bitAnd 1 0 = 0 := rfl
theorem b11 : Builtin.bitAnd 1 1 = 1 := rfl
def eqN (m r : Nat) : Nat := if m = r then 1 else 0
def hot (p m : Nat) : List Nat := (List.range p).map fun r => eqN m r
/-- a deed's last value -/
def Deed.one : Deed → Nat
  | .inv a => a
  | .and a _ => a
  | .or a _ => a
  | .xor a _ => a
  | .shift a => a
  | .minus a => a
  | .add a _ => a
  | .sub a _ => a
  | _ => 0
def Deed.last : Deed → Nat
  | .inv a => a
  | .and _ b => b
  | .or _ b => b
  | .xor _ b => b
  | .shift a => a
  | .minus a => a
  | .add _ b => b
  | .sub _ b => b
  | _ => 0
def Deed.isCount : Deed → Bool
  | .count _ _ _ => true
  | _ => false
/-! ### what is held -/
theorem marked_tup (x : Deed) : oin (.str x.name) (.tup tup_MARKED) = .ok (.bl x.marked) := by cases x <;> rfl
theorem compL_filter {f : D → Res (Option D)} {p : Deed → Bool} : ∀ {xs : List Deed}, (∀ x ∈ xs, f x.d = .ok (if p x then some x.d else none)) → compL f (xs.map Deed.d) = .ok ((xs.filter p).map Deed.d)
  | [], _ => rfl
  | x :: xs, q => by
    rw [List.map_cons]
    unfold compL
    rw [q x List.mem_cons_self, compL_filter fun y hy => q y (List.mem_cons_of_mem _ hy)]
    cases h : p x <;> simp [h]
def rowD (n : Nat) (xs : List Deed) (out : Nat) : D := .ins "Row" [("inputs", nD n), ("deeds", .tup (xs.map Deed.d)), ("out", nD out)]
theorem row_inputs (n : Nat) (xs : List Deed) (out : Nat) : oattr ["Row"] "inputs" (rowD n xs out) = .ok (nD n) := rfl
theorem row_deeds (n : Nat) (xs : List Deed) (out : Nat) : oattr ["Row"] "deeds" (rowD n xs out) = .ok (.tup (xs.map Deed.d)) := rfl
theorem mark_deeds_ok {n out : Nat} {xs : List Deed} (hz : xs.length ≤ 1000) : m_mark_deeds [rowD n xs out] = .ok (.lst ((xs.filter Deed.marked).map Deed.d)) := by
  have hd := row_deeds n xs out
  unfold m_mark_deeds
  rw [fn1]
  unfold b_mark_deeds
  generalize rowD n xs out = R at *
  have hl : lcE (iseq (un (oattr ["Row"] "deeds") (var 0))) [1] (gnm 1) (tst (bin oin (bin oidx (var 1) (cst (.int 0))) (cst (.tup tup_MARKED)))) (var 1) [some R, none] = .ok (.lst ((xs.filter Deed.marked).map Deed.d)) := by
    unfold lcE
    have hi : iseq (un (oattr ["Row"] "deeds") (var 0)) [some R, none] = .ok (xs.map Deed.d) := by simp [var, hd]
    rw [hi]
    have q : compL (compF [1] (gnm 1) (tst (bin oin (bin oidx (var 1) (cst (.int 0))) (cst (.tup tup_MARKED)))) (var 1) [some R, none]) (xs.map Deed.d) = .ok ((xs.filter Deed.marked).map Deed.d) := compL_filter fun x _ => by
      have h1 := deed_name x
      have h2 := marked_tup x
      unfold compF
      generalize x.d = X at *
      cases h : x.marked <;> rw [h] at h2 <;> simp [wipe, var, h1, h2]
    rw [bind_ok, q, noexc_ok, bind_ok]
    have hl : (xs.map Deed.d).length ≤ SZ := by
      rw [List.length_map]
      exact le_sz hz
    exact chk_ok hl
  simp [hl]
theorem count_first (x : Deed) : oeq (.str x.name) (.str "count") = .ok (.bl x.isCount) := by cases x <;> rfl
theorem top_count {x : Deed} (h : x.isCount = true) : oidx x.d (.int 1) = .ok (nD x.top) := by
  cases x with
  | count p r ps => exact ixt1
  | _ => cases h
theorem top_plain {x : Deed} (h : x.isCount = false) : x.top = 2 := by
  cases x with
  | count p r ps => cases h
  | _ => rfl
theorem carry_one {x : Deed} (hm : x.marked = true) (hc : x.isCount = false) : oidx x.d (.int 1) = .ok (nD x.one) ∧ oidx x.d (.int (-1)) = .ok (nD x.last) := by
  cases x <;> first | (cases hm; done) | (cases hc; done) | exact ⟨rfl, rfl⟩
theorem carry_in {x : Deed} (hm : x.marked = true) (hc : x.isCount = false) {n : Nat} (hx : x.ok n) : x.one < n ∧ x.last < n := by
  cases x with
  | shift a => exact ⟨hx, hx⟩
  | minus a => exact ⟨hx, hx⟩
  | add a b => exact hx
  | sub a b => exact hx
  | count p r ps => cases hc
  | _ => cases hm
theorem carry_names {x : Deed} (hm : x.marked = true) (hc : x.isCount = false) : ∀ s ∈ ["and", "or", "xor", "not", "zero", "ones", "count"], (x.name == s) = false := by
  cases x with
  | shift a => exact (by decide : ∀ s ∈ ["and", "or", "xor", "not", "zero", "ones", "count"], ("shift" == s) = false)
  | minus a => exact (by decide : ∀ s ∈ ["and", "or", "xor", "not", "zero", "ones", "count"], ("minus" == s) = false)
  | add a b => exact (by decide : ∀ s ∈ ["and", "or", "xor", "not", "zero", "ones", "count"], ("add" == s) = false)
  | sub a b => exact (by decide : ∀ s ∈ ["and", "or", "xor", "not", "zero", "ones", "count"], ("sub" == s) = false)
  | count p r ps => cases hc
  | _ => cases hm
theorem deed_cases (x : Deed) : x.marked = false ∨ (x.marked = true ∧ x.isCount = false) ∨ ∃ p r ps, x = .count p r ps := by
  cases x <;> first | exact .inl rfl | exact .inr (.inl ⟨rfl, rfl⟩) | exact .inr (.inr ⟨_, _, _, rfl⟩)
theorem filt_ok {n : Nat} {xs : List Deed} (hr : Row n xs) : ∀ x ∈ xs.filter Deed.marked, ∃ k, x.ok k := fun x hx => by
  obtain ⟨k, hk, e⟩ := List.mem_iff_getElem.mp (List.mem_filter.mp hx).1
  exact ⟨n + k, e ▸ hr k hk⟩
theorem top5 {n : Nat} {xs : List Deed} (hr : Row n xs) : ∀ x ∈ xs, x.top ≤ 5 := fun x hx => by
  obtain ⟨k, hk, e⟩ := List.mem_iff_getElem.mp hx
  have h := hr k hk
  rw [e] at h
  cases x with
  | count p r ps =>
    obtain ⟨hp, _⟩ := h
    show p ≤ 5
    omega
  | _ =>
    show 2 ≤ 5
    decide
theorem are_values_ok {W : D} {ps : List Nat} {k : Nat} (hW : iseq (var 0) [some W, some (nD k), none] = .ok (ps.map nD)) (hp : ∀ a ∈ ps, a < k) (hz : ps.length ≤ 1000) : m_are_values [W, nD k] = .ok (.bl true) := by
  have hc : lcE (iseq (var 0)) [2] (gnm 2) yes (call m_is_below (argC (var 2) (argC (var 1) argN))) [some W, some (nD k), none] = .ok (.lst (ps.map fun _ => .bl true)) := by
    refine lc_mapI (k := nD) hW (le_sz hz) fun a ha => ?_
    have q := is_below_ok a k
    rw [decide_eq_true (hp a ha)] at q
    generalize nD a = A at *
    generalize nD k = N at *
    exact ⟨_, rfl, by simp only [wipe]; simp [var, q]⟩
  have hb : ball (.lst (ps.map fun _ => .bl true)) = .ok (.bl true) := by
    have := ball_bools (ps.map fun _ => true)
    rw [List.map_map] at this
    refine this.trans ?_
    rw [show (ps.map fun _ => true).all id = true by simp]
  unfold m_are_values
  rw [fn2]
  unfold b_are_values
  generalize nD k = N at *
  generalize D.lst (ps.map fun _ => .bl true) = Z at *
  simp [var, hc, hb]
theorem values_t {ps : List Nat} {k : Nat} (hp : ∀ a ∈ ps, a < k) (hz : ps.length ≤ 1000) : m_are_values [.tup (ps.map nD), nD k] = .ok (.bl true) := are_values_ok (by simp [var]) hp hz
theorem count_deed_ok {p r k : Nat} {ps : List Nat} (hp : p = 2 ∨ p = 3 ∨ p = 5) (hr : r < p) (h1 : 1 ≤ ps.length) (h4 : ps.length ≤ 4) (ha : ∀ a ∈ ps, a < k) : m_is_count_deed [(Deed.count p r ps).d, nD k] = .ok (.bl true) := by
  have q1 := isint_ok p
  have q2 := is_below_ok r p
  rw [decide_eq_true hr] at q2
  have q3 := values_t ha (by omega)
  have q4 : onotin (nD p) (.tup [.int 2, .int 3, .int 5]) = .ok (.bl false) := by rcases hp with rfl | rfl | rfl <;> rfl
  have q5 : blen (Deed.count p r ps).d = .ok (.int 4) := rfl
  have q6 : oslc (Deed.count p r ps).d (some 1) none = .ok (.tup [nD p, nD r, .tup (ps.map nD)]) := rfl
  have q7 : oisi CS [.tup] (.tup (ps.map nD)) = .ok (.bl true) := rfl
  have q8 : blen (.tup (ps.map nD)) = .ok (.int ((ps.length : Nat) : Int)) := by simp
  have q9 : ole (.int 1) (.int ((ps.length : Nat) : Int)) = .ok (.bl true) := by rw [ole_ii, decide_eq_true (by omega)]
  have q10 : ole (.int ((ps.length : Nat) : Int)) (.int 4) = .ok (.bl true) := by rw [ole_ii, decide_eq_true (by omega)]
  unfold m_is_count_deed
  rw [fn2]
  unfold b_is_count_deed
  generalize (Deed.count p r ps).d = X at *
  generalize D.tup (ps.map nD) = T at *
  generalize ((ps.length : Nat) : Int) = Z at *
  generalize nD p = P' at *
  generalize nD r = R' at *
  generalize nD k = K' at *
  simp [var, gtup, gtupL, slc_eq, bnd_none, bnd_some, q1, q2, q3, q4, q5, q6, q7, q8, q9, q10]
theorem deed_plain {s : String} {vs : List Nat} {k : Nat} (hs : oeq (.str s) (.str "count") = .ok (.bl false)) (ht : onothas tab_SIZES (.str s) = .ok (.bl false)) (hl : olook tab_SIZES (.str s) = .ok (.int (vs.length : Int))) (ha : ∀ a ∈ vs, a < k) (hz : vs.length ≤ 1000) : m_is_deed [.tup (.str s :: vs.map nD), nD k] = .ok (.bl true) := by
  have q1 : oisi CS [.tup] (.tup (.str s :: vs.map nD)) = .ok (.bl true) := rfl
  have q2 : truthy (.tup (.str s :: vs.map nD)) = .ok true := by simp [truthy]
  have q3 : oidx (.tup (.str s :: vs.map nD)) (.int 0) = .ok (.str s) := oidx_t (k := 0) rfl
  have q4 : oisi CS [.str] (.str s) = .ok (.bl true) := rfl
  have q5 : blen (.tup (.str s :: vs.map nD)) = .ok (.int ((vs.length : Int) + 1)) := by simp
  have q6 : oslc (.tup (.str s :: vs.map nD)) (some 1) none = .ok (.tup (vs.map nD)) := by
    show Res.ok (D.tup (cut (.str s :: vs.map nD) (some 1) none)) = _
    have e : cut (D.str s :: vs.map nD) (some 1) none = vs.map nD := by
      unfold cut
      have e0 : HT.sIx (D.str s :: vs.map nD).length 0 (some 1) = 1 := by
        rw [show (1 : Int) = ((1 : Nat) : Int) from rfl, HT.sIx_nat]
        simp
      have e1 : HT.sIx (D.str s :: vs.map nD).length (D.str s :: vs.map nD).length none = (D.str s :: vs.map nD).length := rfl
      rw [e0, e1]
      have l : (vs.map nD).length = vs.length := List.length_map _
      simp only [List.drop_succ_cons, List.drop_zero, List.length_cons, Nat.add_sub_cancel]
      exact List.take_of_length_le (by omega)
    rw [e]
  have q7 := values_t ha hz
  unfold m_is_deed
  rw [fn2]
  unfold b_is_deed
  generalize D.tup (.str s :: vs.map nD) = X at *
  generalize D.tup (vs.map nD) = T at *
  generalize nD k = K' at *
  simp [var, slc_eq, bnd_none, bnd_some, q1, q2, q3, q4, q5, q6, q7, hs, ht, hl]
theorem deed_count {p r k : Nat} {ps : List Nat} (hp : p = 2 ∨ p = 3 ∨ p = 5) (hr : r < p) (h1 : 1 ≤ ps.length) (h4 : ps.length ≤ 4) (ha : ∀ a ∈ ps, a < k) : m_is_deed [(Deed.count p r ps).d, nD k] = .ok (.bl true) := by
  have q := count_deed_ok hp hr h1 h4 ha
  have q1 : oisi CS [.tup] (Deed.count p r ps).d = .ok (.bl true) := rfl
  have q2 : truthy (Deed.count p r ps).d = .ok true := rfl
  have q3 : oidx (Deed.count p r ps).d (.int 0) = .ok (.str "count") := rfl
  have q4 : oisi CS [.str] (.str "count") = .ok (.bl true) := rfl
  have q5 : oeq (.str "count") (.str "count") = .ok (.bl true) := rfl
  unfold m_is_deed
  rw [fn2]
  unfold b_is_deed
  generalize (Deed.count p r ps).d = X at *
  generalize nD k = K' at *
  simp [var, q, q1, q2, q3, q4, q5]
theorem is_deed_ok {k : Nat} {x : Deed} (h : x.ok k) : m_is_deed [x.d, nD k] = .ok (.bl true) := by
  cases x with
  | zero => exact deed_plain (s := "zero") (vs := []) rfl rfl rfl (by simp) (by simp)
  | ones => exact deed_plain (s := "ones") (vs := []) rfl rfl rfl (by simp) (by simp)
  | inv a => exact deed_plain (s := "not") (vs := [a]) rfl rfl rfl (by simpa [Deed.ok] using h) (by simp)
  | and a b => exact deed_plain (s := "and") (vs := [a, b]) rfl rfl rfl (by simpa [Deed.ok] using h) (by simp)
  | or a b => exact deed_plain (s := "or") (vs := [a, b]) rfl rfl rfl (by simpa [Deed.ok] using h) (by simp)
  | xor a b => exact deed_plain (s := "xor") (vs := [a, b]) rfl rfl rfl (by simpa [Deed.ok] using h) (by simp)
  | shift a => exact deed_plain (s := "shift") (vs := [a]) rfl rfl rfl (by simpa [Deed.ok] using h) (by simp)
  | minus a => exact deed_plain (s := "minus") (vs := [a]) rfl rfl rfl (by simpa [Deed.ok] using h) (by simp)
  | add a b => exact deed_plain (s := "add") (vs := [a, b]) rfl rfl rfl (by simpa [Deed.ok] using h) (by simp)
  | sub a b => exact deed_plain (s := "sub") (vs := [a, b]) rfl rfl rfl (by simpa [Deed.ok] using h) (by simp)
  | count p r ps => exact deed_count h.1 h.2.1 h.2.2.1 h.2.2.2.1 h.2.2.2.2
theorem tops_le {n : Nat} {xs : List Deed} (hr : Row n xs) : ∀ t ∈ tops xs, 0 < t ∧ t ≤ 5 := fun t ht => by
  obtain ⟨x, hx, rfl⟩ := List.mem_map.mp ht
  have hx' := (List.mem_filter.mp hx).1
  refine ⟨?_, top5 hr x hx'⟩
  obtain ⟨k, hk⟩ := filt_ok hr x hx
  cases x with
  | count p r ps =>
    have := hk.2.1
    show 0 < p
    omega
  | _ =>
    show 0 < 2
    decide
theorem Row.snoc {n : Nat} {xs : List Deed} {x : Deed} (hr : Row n xs) (hx : x.ok (n + xs.length)) : Row n (xs ++ [x]) := fun k hk => by
  by_cases h : k < xs.length
  · rw [List.getElem_append_left h]
    exact hr k h
  · have e : k = xs.length := by
      simp at hk
      omega
    subst e
    simpa using hx
end Py.U
namespace Py.U
open PySem
theorem bnot_nat (a : Nat) : Builtin.bitNot (Builtin.bitNot (a : Int)) = (a : Int) := by
  show -(-(a : Int) - 1) - 1 = (a : Int)
  omega
theorem nand (a b : Nat) : oand (nD a) (nD b) = .ok (nD (a &&& b)) := by
  unfold nD
  rw [oand_ii]
  rfl
theorem bor_nat (a b : Nat) : Builtin.bitOr (a : Int) (b : Int) = ((a ||| b : Nat) : Int) := by
  have h1 : Builtin.bitNot (a : Int) = Int.negSucc a := by
    show -(a : Int) - 1 = Int.negSucc a
    rw [Int.negSucc_eq]
    omega
  have h2 : Builtin.bitNot (b : Int) = Int.negSucc b := by
    show -(b : Int) - 1 = Int.negSucc b
    rw [Int.negSucc_eq]
    omega
  show Builtin.bitNot (Builtin.bitAnd (Builtin.bitNot (a : Int)) (Builtin.bitNot (b : Int))) = _
  rw [h1, h2]
  have e : Builtin.bitAnd (Int.negSucc a) (Int.negSucc b) = Builtin.bitNot ((a ||| b : Nat) : Int) := by
    show Builtin.bitNot (((Builtin.bitNot (Int.negSucc a)).toNat ||| (Builtin.bitNot (Int.negSucc b)).toNat : Nat) : Int) = _
    have e1 : (Builtin.bitNot (Int.negSucc a)).toNat = a := by
      rw [← h1, bnot_nat, Int.toNat_natCast]
    have e2 : (Builtin.bitNot (Int.negSucc b)).toNat = b := by
      rw [← h2, bnot_nat, Int.toNat_natCast]
    rw [e1, e2]
  rw [e, bnot_nat]
theorem or_split : ∀ (n a b : Nat), a < 2 ^ n → b < 2 ^ n → (a ||| b) = (a ^^^ b) + (a &&& b)
  | 0, a, b, ha, hb => by
    have e1 : a = 0 := by
      simp at ha
      exact ha
    have e2 : b = 0 := by
      simp at hb
      exact hb
    subst e1 e2
    rfl
  | n + 1, a, b, ha, hb => by
    have hp := Nat.pow_succ 2 n
    have ih := or_split n (a / 2) (b / 2) (by omega) (by omega)
    have d1 := Nat.or_div_two (a := a) (b := b)
    have d2 := Nat.xor_div_two (a := a) (b := b)
    have d3 := Nat.and_div_two (a := a) (b := b)
    have b0 : ∀ n : Nat, bt n 0 = n % 2 := fun n => by
      unfold bt
      simp
    have t1 := bt_or a b 0
    have t2 := bt_xor a b 0
    have t3 := bt_and a b 0
    rw [b0, b0, b0] at t1 t2 t3
    have m1 : (a ||| b) % 2 = (a ^^^ b) % 2 + (a &&& b) % 2 := by
      rcases Nat.mod_two_eq_zero_or_one a with h1 | h1 <;> rcases Nat.mod_two_eq_zero_or_one b with h2 | h2 <;> rw [h1, h2] at t1 t2 t3 <;> split at t1 <;> split at t2 <;> split at t3 <;> omega
    omega
theorem nor (a b : Nat) : oor (nD a) (nD b) = .ok (nD (a ||| b)) := by
  unfold nD
  show Res.ok (D.int (Builtin.bitOr _ _)) = _
  rw [bor_nat]
theorem bxor_nat (a b : Nat) : Builtin.bitXor (a : Int) (b : Int) = ((a ^^^ b : Nat) : Int) := by
  show Builtin.bitOr (a : Int) (b : Int) - Builtin.bitAnd (a : Int) (b : Int) = _
  rw [bor_nat]
  have e : Builtin.bitAnd (a : Int) (b : Int) = ((a &&& b : Nat) : Int) := rfl
  rw [e]
  have h := or_split (a + b) a b (Nat.lt_of_lt_of_le Nat.lt_two_pow_self (Nat.pow_le_pow_right (by decide) (by omega))) (Nat.lt_of_lt_of_le Nat.lt_two_pow_self (Nat.pow_le_pow_right (by decide) (by omega)))
  omega
theorem nxor (a b : Nat) : oxor (nD a) (nD b) = .ok (nD (a ^^^ b)) := by
  unfold nD
  show Res.ok (D.int (Builtin.bitXor _ _)) = _
  rw [bxor_nat]
/-! ### lanes -/
theorem ninv (y : Nat) : oinv (nD y) = .ok (.int (Builtin.bitNot (y : Int))) := rfl
theorem nandinv (x y : Nat) : oand (nD x) (.int (Builtin.bitNot (y : Int))) = .ok (nD (x - (x &&& y))) := by
  have e : Builtin.bitAnd (x : Int) (Builtin.bitNot (y : Int)) = ((x - (x &&& y) : Nat) : Int) := by
    unfold Builtin.bitAnd
    have h1 : decide (0 ≤ (x : Int)) = true := decide_eq_true (Int.natCast_nonneg x)
    have h2 : decide (0 ≤ Builtin.bitNot (y : Int)) = false := decide_eq_false (by unfold Builtin.bitNot; omega)
    have h3 : (Builtin.bitNot (Builtin.bitNot (y : Int))).toNat = y := by unfold Builtin.bitNot; omega
    rw [h1, h2]
    dsimp only
    rw [h3, Int.toNat_natCast]
    have := Nat.and_le_left (n := x) (m := y)
    omega
  unfold nD
  rw [oand_ii, e]
def plc (ls : List Nat) (p : Nat) : List Nat := ls.map fun x => bt x p
theorem at0_plc (ls : List Nat) (p a : Nat) : at0 (plc ls p) a = bt (at0 ls a) p := by
  unfold at0 plc
  rw [List.getD_eq_getElem?_getD, List.getElem?_map, List.getD_eq_getElem?_getD]
  cases ls[a]? with
  | none => exact (bt_zero p).symm
  | some x => rfl
theorem plc_snoc (ls : List Nat) (v p : Nat) : plc (ls ++ [v]) p = plc ls p ++ [bt v p] := by simp [plc]
def Lns (W : Nat) (ls : List Nat) : Prop := ∀ x ∈ ls, x < 2 ^ W
theorem Lns.at {W : Nat} {ls : List Nat} (h : Lns W ls) (a : Nat) : at0 ls a < 2 ^ W := by
  unfold at0
  rw [List.getD_eq_getElem?_getD]
  cases e : ls[a]? with
  | none => exact Nat.two_pow_pos W
  | some x => exact h x (List.mem_of_getElem? e)
theorem Lns.snoc {W : Nat} {ls : List Nat} {v : Nat} (h : Lns W ls) (hv : v < 2 ^ W) : Lns W (ls ++ [v]) := fun x hx => by
  rcases List.mem_append.mp hx with q | q
  · exact h x q
  · rw [List.mem_singleton.mp q]
    exact hv
theorem and_lt {x y W : Nat} (h : x < 2 ^ W) : x &&& y < 2 ^ W := Nat.lt_of_le_of_lt Nat.and_le_left h
theorem dif_lt {x y W : Nat} (h : x < 2 ^ W) : x - y < 2 ^ W := Nat.lt_of_le_of_lt (Nat.sub_le _ _) h
/-! ### a carry deed over lanes -/
theorem lane_shift (a b m : Nat) : m_carry_step [.str "shift", nD a, nD b, nD m] = .ok (.tup [nD m, nD a]) := rfl
theorem lane_minus (a b m : Nat) : m_carry_step [.str "minus", nD a, nD b, nD m] = .ok (.tup [nD (a ^^^ m), nD (a ||| m)]) := by
  have h1 := nxor a m
  have h2 := nor a m
  unfold m_carry_step
  rw [fn4]
  unfold b_carry_step
  generalize nD (a ^^^ m) = X at *
  generalize nD (a ||| m) = Y at *
  generalize nD a = A at *
  generalize nD b = B at *
  generalize nD m = M at *
  simp [var, str_eq, h1, h2]
theorem lane_add (a b m : Nat) : m_carry_step [.str "add", nD a, nD b, nD m] = .ok (.tup [nD ((a ^^^ b) ^^^ m), nD ((a &&& b) ||| ((a ||| b) &&& m))]) := by
  have h1 := nxor a b
  have h2 := nxor (a ^^^ b) m
  have h3 := nand a b
  have h4 := nor a b
  have h5 := nand (a ||| b) m
  have h6 := nor (a &&& b) ((a ||| b) &&& m)
  unfold m_carry_step
  rw [fn4]
  unfold b_carry_step
  generalize nD ((a ^^^ b) ^^^ m) = X at *
  generalize nD ((a &&& b) ||| ((a ||| b) &&& m)) = Y at *
  generalize nD (a ^^^ b) = X1 at *
  generalize nD (a &&& b) = X2 at *
  generalize nD ((a ||| b) &&& m) = X3 at *
  generalize nD (a ||| b) = X4 at *
  generalize nD a = A at *
  generalize nD b = B at *
  generalize nD m = M at *
  simp [var, str_eq, h1, h2, h3, h4, h5, h6]
theorem lane_sub (a b m : Nat) : m_carry_step [.str "sub", nD a, nD b, nD m] = .ok (.tup [nD ((a ^^^ b) ^^^ m), nD (((b ||| m) - ((b ||| m) &&& a)) ||| (b &&& m))]) := by
  have h1 := nxor a b
  have h2 := nxor (a ^^^ b) m
  have h3 := nor b m
  have h4 := ninv a
  have h5 := nandinv (b ||| m) a
  have h6 := nand b m
  have h7 := nor ((b ||| m) - ((b ||| m) &&& a)) (b &&& m)
  unfold m_carry_step
  rw [fn4]
  unfold b_carry_step
  generalize nD ((a ^^^ b) ^^^ m) = X at *
  generalize nD (((b ||| m) - ((b ||| m) &&& a)) ||| (b &&& m)) = Y at *
  generalize nD ((b ||| m) - ((b ||| m) &&& a)) = X0 at *
  generalize nD (a ^^^ b) = X1 at *
  generalize nD (b &&& m) = X2 at *
  generalize nD (b ||| m) = X4 at *
  generalize D.int (Builtin.bitNot (a : Int)) = X5 at *
  generalize nD a = A at *
  generalize nD b = B at *
  generalize nD m = M at *
  simp [var, str_eq, h1, h2, h3, h4, h5, h6, h7]
/-- what a carry deed gives at each place -/
theorem lane_carry {W : Nat} {ls : List Nat} (hl : Lns W ls) {x : Deed} (hm : x.marked = true) (hc : x.isCount = false) {m : Nat} (hmw : m < 2 ^ W) : ∃ v n, m_carry_step [.str x.name, nD (at0 ls x.one), nD (at0 ls x.last), nD m] = .ok (.tup [nD v, nD n]) ∧ v < 2 ^ W ∧ n < 2 ^ W ∧ ∀ p, bt v p = x.bit1 (plc ls p) (bt m p) ∧ bt n p = x.next (plc ls p) (bt m p) := by
  cases x with
  | shift a =>
    refine ⟨m, at0 ls a, lane_shift _ _ _, hmw, hl.at a, fun p => ⟨rfl, ?_⟩⟩
    show _ = at0 (plc ls p) a
    rw [at0_plc]
  | minus a =>
    refine ⟨_, _, lane_minus _ _ _, Nat.xor_lt_two_pow (hl.at a) hmw, Nat.or_lt_two_pow (hl.at a) hmw, fun p => ?_⟩
    show bt (at0 ls a ^^^ m) p = (at0 (plc ls p) a + bt m p) % 2 ∧ bt (at0 ls a ||| m) p = if 1 ≤ at0 (plc ls p) a + bt m p then 1 else 0
    rw [at0_plc, bt_xor, bt_or]
    rcases bt01 (at0 ls a) p with h | h <;> rcases bt01 m p with h' | h' <;> simp [h, h']
  | add a b =>
    refine ⟨_, _, lane_add _ _ _, Nat.xor_lt_two_pow (Nat.xor_lt_two_pow (hl.at a) (hl.at b)) hmw, Nat.or_lt_two_pow (and_lt (hl.at a)) (and_lt (Nat.or_lt_two_pow (hl.at a) (hl.at b))), fun p => ?_⟩
    show bt ((at0 ls a ^^^ at0 ls b) ^^^ m) p = (at0 (plc ls p) a + at0 (plc ls p) b + bt m p) % 2 ∧ bt ((at0 ls a &&& at0 ls b) ||| ((at0 ls a ||| at0 ls b) &&& m)) p = if 2 ≤ at0 (plc ls p) a + at0 (plc ls p) b + bt m p then 1 else 0
    rw [at0_plc, at0_plc, bt_xor, bt_xor, bt_or, bt_and, bt_and, bt_or]
    rcases bt01 (at0 ls a) p with h | h <;> rcases bt01 (at0 ls b) p with h2 | h2 <;> rcases bt01 m p with h' | h' <;> simp [h, h2, h']
  | sub a b =>
    refine ⟨_, _, lane_sub _ _ _, Nat.xor_lt_two_pow (Nat.xor_lt_two_pow (hl.at a) (hl.at b)) hmw, Nat.or_lt_two_pow (dif_lt (Nat.or_lt_two_pow (hl.at b) hmw)) (and_lt (hl.at b)), fun p => ?_⟩
    show bt ((at0 ls a ^^^ at0 ls b) ^^^ m) p = (at0 (plc ls p) a + at0 (plc ls p) b + bt m p) % 2 ∧ bt (((at0 ls b ||| m) - ((at0 ls b ||| m) &&& at0 ls a)) ||| (at0 ls b &&& m)) p = if at0 (plc ls p) a < at0 (plc ls p) b + bt m p then 1 else 0
    rw [at0_plc, at0_plc, bt_xor, bt_xor, bt_or, bt_diff, bt_and, bt_or]
    rcases bt01 (at0 ls a) p with h | h <;> rcases bt01 (at0 ls b) p with h2 | h2 <;> rcases bt01 m p with h' | h' <;> simp [h, h2, h']
  | count p r ps => cases hc
  | _ => cases hm
/-! ### a count's lanes turned -/
theorem ixN_last {n : Nat} (h : 0 < n) : L2.ixN n (-1) = some (n - 1) := by
  unfold L2.ixN
  simp
  omega
theorem idx_last {xs : List D} {d : D} (h : xs[xs.length - 1]? = some d) (h0 : 0 < xs.length) : oidx (.lst xs) (.int (-1)) = .ok d := by
  show opt ((L2.ixN xs.length (-1)).bind fun j => xs[j]?) = _
  rw [ixN_last h0]
  show opt (xs[xs.length - 1]?) = _
  rw [h]
  rfl
/-- the number ahead in a ring -/
def bk (t r : Nat) : Nat := if r = 0 then t - 1 else r - 1
theorem bk_lt {t r : Nat} (h : r < t) : bk t r < t := by
  unfold bk
  split <;> omega
theorem lst_at0 {xs : List Nat} {r : Nat} (h : r < xs.length) : oidx (.lst (xs.map nD)) (nD r) = .ok (nD (at0 xs r)) := bits_at h
theorem lst_bk {xs : List Nat} {r : Nat} (h : r < xs.length) : (osub (nD r) (.int 1) >>= fun z => oidx (.lst (xs.map nD)) z) = .ok (nD (at0 xs (bk xs.length r))) := by
  unfold bk
  by_cases c : r = 0
  · subst c
    rw [if_pos rfl]
    refine idx_last ?_ (by simpa using h)
    unfold at0
    rw [List.length_map, List.getElem?_map, List.getD_eq_getElem?_getD, List.getElem?_eq_getElem (by omega)]
    rfl
  · rw [if_neg c]
    have e : osub (nD r) (.int 1) = .ok (nD (r - 1)) := nsub (a := r) (b := 1) (by omega)
    rw [e]
    exact bits_at (bs := xs) (by omega)
def turn1 (xs : List Nat) (q : Nat) : List Nat := (List.range xs.length).map fun r => (at0 xs r - (at0 xs r &&& q)) ||| (at0 xs (bk xs.length r) &&& q)
theorem turn1_len (xs : List Nat) (q : Nat) : (turn1 xs q).length = xs.length := by simp [turn1]
theorem turn1_at {xs : List Nat} {q r : Nat} (h : r < xs.length) : at0 (turn1 xs q) r = (at0 xs r - (at0 xs r &&& q)) ||| (at0 xs (bk xs.length r) &&& q) := by
  unfold turn1
  generalize hf : (fun r => (at0 xs r - (at0 xs r &&& q)) ||| (at0 xs (bk xs.length r) &&& q)) = f
  have e : at0 ((List.range xs.length).map f) r = f r := by
    unfold at0
    rw [List.getD_eq_getElem?_getD, List.getElem?_map, List.getElem?_range h]
    rfl
  rw [e, ← hf]
theorem turn1_ok {xs : List Nat} (hz : xs.length ≤ 1000) (q : Nat) (X Y o : Option D) : lcE (irng1 (un blen (var 2))) [4] (gnm 4) yes (bin oor (bin oand (bin oidx (var 2) (var 4)) (un oinv (var 3))) (bin oand (bin oidx (var 2) (bin osub (var 4) (cst (.int 1)))) (var 3))) [X, Y, some (.lst (xs.map nD)), some (nD q), o] = .ok (.lst ((turn1 xs q).map nD)) := by
  unfold turn1
  rw [List.map_map]
  have hr : irng1 (un blen (var 2)) [X, Y, some (.lst (xs.map nD)), some (nD q), o] = .ok ((List.range xs.length).map fun i => .int ((i : Nat) : Int)) := irng1_nat (n := xs.length) (by
    have := lenN xs nD
    generalize xs.map nD = L at *
    simp [var, this]
    rfl) (rng_lt hz)
  refine lc_mapI (k := fun i => .int ((i : Nat) : Int)) hr (by rw [List.length_range]; exact le_sz hz) fun r hr => ?_
  have hr2 : r < xs.length := by simpa using hr
  have b1 := lst_at0 hr2
  have b2 := lst_bk hr2
  have b3 := ninv q
  have b4 := nandinv (at0 xs r) q
  have b5 := nand (at0 xs (bk xs.length r)) q
  have b6 := nor (at0 xs r - (at0 xs r &&& q)) (at0 xs (bk xs.length r) &&& q)
  show ∃ e1, _ ∧ _ = Res.ok (nD ((at0 xs r - (at0 xs r &&& q)) ||| (at0 xs (bk xs.length r) &&& q)))
  refine ⟨[X, Y, some (.lst (xs.map nD)), some (nD q), some (nD r)], rfl, ?_⟩
  show ((oidx (.lst (xs.map nD)) (nD r) >>= fun x => oinv (nD q) >>= fun y => oand x y) >>= fun x => ((osub (nD r) (.int 1) >>= fun z => oidx (.lst (xs.map nD)) z) >>= fun x => Res.ok (nD q) >>= fun y => oand x y) >>= fun y => oor x y) = _
  rw [b1, bind_ok, b3, bind_ok, b4, bind_ok, b2, bind_ok, bind_ok, b5, bind_ok, b6]
/-- one place of many lanes: just one of them is set -/
def Hot (W t : Nat) (xs : List Nat) (m : Nat → Nat) : Prop := xs.length = t ∧ Lns W xs ∧ ∀ p, p < W → m p < t ∧ ∀ r, r < t → bt (at0 xs r) p = eqN (m p) r
theorem Hot.turn {W t q : Nat} {xs : List Nat} {m : Nat → Nat} (h : Hot W t xs m) : Hot W t (turn1 xs q) fun p => (m p + bt q p) % t := by
  obtain ⟨h1, h2, h3⟩ := h
  refine ⟨by rw [turn1_len, h1], fun x hx => ?_, fun p hp => ⟨Nat.mod_lt _ (by have := (h3 p hp).1; omega), fun r hr => ?_⟩⟩
  · unfold turn1 at hx
    obtain ⟨r, _, rfl⟩ := List.mem_map.mp hx
    exact Nat.or_lt_two_pow (dif_lt (h2.at r)) (and_lt (h2.at _))
  · obtain ⟨k1, k2⟩ := h3 p hp
    rw [turn1_at (by omega), bt_or, bt_diff, bt_and, h1, k2 r hr, k2 _ (bk_lt hr)]
    show _ = eqN ((m p + bt q p) % t) r
    rcases bt01 q p with e | e
    · rw [e]
      have e0 : (m p + 0) % t = m p := Nat.mod_eq_of_lt k1
      rw [e0]
      have ee : ∀ a b, eqN a b = 0 ∨ eqN a b = 1 := fun a b => if01
      rcases ee (m p) (bk t r) with q1 | q1 <;> rcases ee (m p) r with q2 | q2 <;> rw [q1, q2] <;> simp
    · rw [e]
      have key : eqN (m p) (bk t r) = eqN ((m p + 1) % t) r := by
        have e2 : (m p + 1) % t = if m p + 1 = t then 0 else m p + 1 := by
          split
          · rename_i c
            rw [c, Nat.mod_self]
          · rw [Nat.mod_eq_of_lt (by omega)]
        rw [e2]
        unfold eqN bk
        split <;> split <;> split <;> (try split) <;> omega
      rw [← key]
      have ee : ∀ a b, eqN a b = 0 ∨ eqN a b = 1 := fun a b => if01
      rcases ee (m p) (bk t r) with q1 | q1 <;> rw [q1] <;> simp
end Py.U
namespace Py.U
open PySem
/-! ### the deeds over lanes -/
inductive Hd where
  | one (x : Nat) | many (xs : List Nat)
def Hd.d : Hd → D
  | .one x => nD x
  | .many xs => .lst (xs.map nD)
/-- what is held for a deed whose mark at place p is m p -/
def Hd.ok (W : Nat) (x : Deed) (m : Nat → Nat) : Hd → Prop
  | .one v => x.isCount = false ∧ v < 2 ^ W ∧ ∀ p, p < W → m p < 2 ∧ bt v p = m p
  | .many xs => x.isCount = true ∧ Hot W x.top xs m
def runB : SM := (seq (asg (gnm 7) (bin oidx (var 6) (cst (.int 0))))
  (seq (Py.ite (tst (bin oeq (var 7) (cst (.str "and")))) (asg (gnm 8) (bin oand (bin oidx (var 4) (bin oidx (var 6) (cst (.int 1)))) (bin oidx (var 4) (bin oidx (var 6) (cst (.int 2)))))) (Py.ite (tst (bin oeq (var 7) (cst (.str "or")))) (asg (gnm 8) (bin oor (bin oidx (var 4) (bin oidx (var 6) (cst (.int 1)))) (bin oidx (var 4) (bin oidx (var 6) (cst (.int 2)))))) (Py.ite (tst (bin oeq (var 7) (cst (.str "xor")))) (asg (gnm 8) (bin oxor (bin oidx (var 4) (bin oidx (var 6) (cst (.int 1)))) (bin oidx (var 4) (bin oidx (var 6) (cst (.int 2)))))) (Py.ite (tst (bin oeq (var 7) (cst (.str "not")))) (asg (gnm 8) (bin oxor (var 3) (bin oidx (var 4) (bin oidx (var 6) (cst (.int 1)))))) (Py.ite (tst (bin oeq (var 7) (cst (.str "zero")))) (asg (gnm 8) (cst (.int 0))) (Py.ite (tst (bin oeq (var 7) (cst (.str "ones")))) (asg (gnm 8) (var 3)) (Py.ite (tst (bin oeq (var 7) (cst (.str "count")))) (seq (asg (gnm 9) (bin oidx (var 2) (un blen (var 5))))
  (seq (asg (gnm 8) (bin oidx (var 9) (bin oidx (var 6) (cst (.int 2)))))
  (app 5 (call m_turned_counts (argC (var 9) (argC (lcE (iseq (bin oidx (var 6) (cst (.int 3)))) [11] (gnm 11) yes (bin oidx (var 4) (var 11))) argN)))))) (seq (asg (gtup [(gnm 8), (gnm 10)]) (call m_carry_step (argC (var 7) (argC (bin oidx (var 4) (bin oidx (var 6) (cst (.int 1)))) (argC (bin oidx (var 4) (bin oidx (var 6) (un oneg (cst (.int 1))))) (argC (bin oidx (var 2) (un blen (var 5))) argN))))))
  (app 5 (var 10))))))))))
  (app 4 (var 8))))
/-- the lane of a deed without a mark -/
theorem lane_plain {W : Nat} {ls : List Nat} (hl : Lns W ls) {x : Deed} (hm : x.marked = false) (hx : x.ok ls.length) {R B HL : D} {Af : List D} (hz : ls.length < 10000) (o7 o8 o9 o10 o11 : Option D) :
    ∃ v, v < 2 ^ W ∧ (∀ p, p < W → bt v p = x.bit0 (plc ls p)) ∧ runB [some R, some B, some HL, some (nD (2 ^ W - 1)), some (.lst (ls.map nD)), some (.lst Af), some x.d, o7, o8, o9, o10, o11] = .ok (.next [some R, some B, some HL, some (nD (2 ^ W - 1)), some (.lst ((ls ++ [v]).map nD)), some (.lst Af), some x.d, some (.str x.name), some (nD v), o9, o10, o11]) := by
  have hz' : (ls.map nD).length < SZ := by rw [List.length_map]; exact Nat.lt_trans hz (by decide)
  have hp1 := Nat.two_pow_pos W
  have s : ∀ a b, oeq (.str a) (.str b) = .ok (.bl (a == b)) := fun _ _ => rfl
  cases x with
  | zero =>
    refine ⟨0, hp1, fun p _ => bt_zero p, ?_⟩
    rw [List.map_append]
    unfold runB
    show _ = Res.ok (Fl.next [_, _, _, _, some (.lst (_ ++ [.int 0])), _, _, _, some (.int 0), _, _, _])
    generalize ls.map nD = L at *
    generalize nD (2 ^ W - 1) = F at *
    simp [var, Deed.d, Deed.name, ixt0, s, hz']
  | ones =>
    refine ⟨2 ^ W - 1, by omega, fun p hp => bt_ones hp, ?_⟩
    rw [List.map_append]
    unfold runB
    show _ = Res.ok (Fl.next [_, _, _, _, some (.lst (_ ++ [nD (2 ^ W - 1)])), _, _, _, _, _, _, _])
    generalize ls.map nD = L at *
    generalize nD (2 ^ W - 1) = F at *
    simp [var, Deed.d, Deed.name, ixt0, s, hz']
  | inv a =>
    have h := lst_at0 (xs := ls) hx
    have q := nxor (2 ^ W - 1) (at0 ls a)
    refine ⟨(2 ^ W - 1) ^^^ at0 ls a, Nat.xor_lt_two_pow (by omega) (hl.at a), fun p hp => ?_, ?_⟩
    · show _ = 1 - at0 (plc ls p) a
      rw [bt_xor, bt_ones hp, at0_plc]
      rcases bt01 (at0 ls a) p with e | e <;> simp [e]
    rw [List.map_append]
    unfold runB
    show _ = Res.ok (Fl.next [_, _, _, _, some (.lst (_ ++ [nD ((2 ^ W - 1) ^^^ at0 ls a)])), _, _, _, _, _, _, _])
    generalize nD ((2 ^ W - 1) ^^^ at0 ls a) = u at *
    generalize nD (2 ^ W - 1) = F at *
    generalize nD (at0 ls a) = v at *
    generalize ls.map nD = L at *
    simp [var, Deed.d, Deed.name, ixt0, ixt1, s, h, q, hz']
  | and a b =>
    have h := lst_at0 (xs := ls) hx.1
    have h' := lst_at0 (xs := ls) hx.2
    have q := nand (at0 ls a) (at0 ls b)
    refine ⟨at0 ls a &&& at0 ls b, and_lt (hl.at a), fun p hp => ?_, ?_⟩
    · show _ = if at0 (plc ls p) a + at0 (plc ls p) b = 2 then 1 else 0
      rw [bt_and, at0_plc, at0_plc]
    rw [List.map_append]
    unfold runB
    show _ = Res.ok (Fl.next [_, _, _, _, some (.lst (_ ++ [nD (at0 ls a &&& at0 ls b)])), _, _, _, _, _, _, _])
    generalize nD (at0 ls a &&& at0 ls b) = u at *
    generalize nD (2 ^ W - 1) = F at *
    generalize nD (at0 ls a) = v at *
    generalize nD (at0 ls b) = w at *
    generalize ls.map nD = L at *
    simp [var, Deed.d, Deed.name, ixt0, ixt1, ixt2, s, h, h', q, hz']
  | or a b =>
    have h := lst_at0 (xs := ls) hx.1
    have h' := lst_at0 (xs := ls) hx.2
    have q := nor (at0 ls a) (at0 ls b)
    refine ⟨at0 ls a ||| at0 ls b, Nat.or_lt_two_pow (hl.at a) (hl.at b), fun p hp => ?_, ?_⟩
    · show _ = if 0 < at0 (plc ls p) a + at0 (plc ls p) b then 1 else 0
      rw [bt_or, at0_plc, at0_plc]
    rw [List.map_append]
    unfold runB
    show _ = Res.ok (Fl.next [_, _, _, _, some (.lst (_ ++ [nD (at0 ls a ||| at0 ls b)])), _, _, _, _, _, _, _])
    generalize nD (at0 ls a ||| at0 ls b) = u at *
    generalize nD (2 ^ W - 1) = F at *
    generalize nD (at0 ls a) = v at *
    generalize nD (at0 ls b) = w at *
    generalize ls.map nD = L at *
    simp [var, Deed.d, Deed.name, ixt0, ixt1, ixt2, s, h, h', q, hz']
  | xor a b =>
    have h := lst_at0 (xs := ls) hx.1
    have h' := lst_at0 (xs := ls) hx.2
    have q := nxor (at0 ls a) (at0 ls b)
    refine ⟨at0 ls a ^^^ at0 ls b, Nat.xor_lt_two_pow (hl.at a) (hl.at b), fun p hp => ?_, ?_⟩
    · show _ = if at0 (plc ls p) a = at0 (plc ls p) b then 0 else 1
      rw [bt_xor, at0_plc, at0_plc]
    rw [List.map_append]
    unfold runB
    show _ = Res.ok (Fl.next [_, _, _, _, some (.lst (_ ++ [nD (at0 ls a ^^^ at0 ls b)])), _, _, _, _, _, _, _])
    generalize nD (at0 ls a ^^^ at0 ls b) = u at *
    generalize nD (2 ^ W - 1) = F at *
    generalize nD (at0 ls a) = v at *
    generalize nD (at0 ls b) = w at *
    generalize ls.map nD = L at *
    simp [var, Deed.d, Deed.name, ixt0, ixt1, ixt2, s, h, h', q, hz']
  | _ => cases hm
theorem lane_carried {W : Nat} {ls : List Nat} (hl : Lns W ls) {x : Deed} (hm : x.marked = true) (hc : x.isCount = false) (hx : x.ok ls.length) {m : Nat} {R B F : D} {HL Af : List D} (hat : oidx (.lst HL) (.int (Af.length : Int)) = .ok (nD m)) (hz : ls.length < 10000) (hz2 : Af.length < 10000) {v n : Nat} (hcs : m_carry_step [.str x.name, nD (at0 ls x.one), nD (at0 ls x.last), nD m] = .ok (.tup [nD v, nD n])) (o7 o8 o9 o10 o11 : Option D) :
    runB [some R, some B, some (.lst HL), some F, some (.lst (ls.map nD)), some (.lst Af), some x.d, o7, o8, o9, o10, o11] = .ok (.next [some R, some B, some (.lst HL), some F, some (.lst ((ls ++ [v]).map nD)), some (.lst (Af ++ [nD n])), some x.d, some (.str x.name), some (nD v), o9, some (nD n), o11]) := by
  have hz' : (ls.map nD).length < SZ := by rw [List.length_map]; exact Nat.lt_trans hz (by decide)
  have hz2' : Af.length < SZ := Nat.lt_trans hz2 (by decide)
  rw [List.map_append]
  have h0 := deed_name x
  obtain ⟨h1, h2⟩ := carry_one hm hc
  obtain ⟨l1, l2⟩ := carry_in hm hc hx
  have b1 := lst_at0 (xs := ls) l1
  have b2 := lst_at0 (xs := ls) l2
  have nn := carry_names hm hc
  have e1 := nn "and" (by simp)
  have e2 := nn "or" (by simp)
  have e3 := nn "xor" (by simp)
  have e4 := nn "not" (by simp)
  have e5 := nn "zero" (by simp)
  have e6 := nn "ones" (by simp)
  have e7 := nn "count" (by simp)
  have s : ∀ t, oeq (.str x.name) (.str t) = .ok (.bl (x.name == t)) := fun _ => rfl
  unfold runB
  show _ = Res.ok (Fl.next [_, _, _, _, some (.lst (_ ++ [nD v])), some (.lst (_ ++ [nD n])), _, _, _, _, _, _])
  generalize nD v = u at *
  generalize nD n = w at *
  generalize nD (at0 ls x.one) = p at *
  generalize nD (at0 ls x.last) = q at *
  generalize nD x.one = i1 at *
  generalize nD x.last = i2 at *
  generalize ls.map nD = L at *
  generalize nD m = M at *
  generalize x.name = nm at *
  generalize x.d = X at *
  simp [var, h0, h1, h2, b1, b2, hcs, hat, s, e1, e2, e3, e4, e5, e6, e7, gtup, gtupL, hz', hz2']
theorem turned_lanes {W t : Nat} (ht : t ≤ 1000) : ∀ (qs xs : List Nat) (m : Nat → Nat), Hot W t xs m → ∃ ys, m_turned_counts [.lst (xs.map nD), .lst (qs.map nD)] = .ok (.lst (ys.map nD)) ∧ Hot W t ys fun p => (m p + (plc qs p).sum) % t := by
  have loop : ∀ (qs xs : List Nat) (m : Nat → Nat), Hot W t xs m → ∀ (X Y : D) (o : Option D), ∃ ys o', Hot W t ys (fun p => (m p + (plc qs p).sum) % t) ∧ forL (forB (gnm 3) (asg (gnm 2) (lcE (irng1 (un blen (var 2))) [4] (gnm 4) yes (bin oor (bin oand (bin oidx (var 2) (var 4)) (un oinv (var 3))) (bin oand (bin oidx (var 2) (bin osub (var 4) (cst (.int 1)))) (var 3)))))) (qs.map nD) [some X, some Y, some (.lst (xs.map nD)), o, none] = .ok (.next [some X, some Y, some (.lst (ys.map nD)), o', none]) := by
    intro qs
    induction qs with
    | nil =>
      intro xs m h X Y o
      refine ⟨xs, o, ⟨h.1, h.2.1, fun p hp => ?_⟩, rfl⟩
      have e : (m p + (plc [] p).sum) % t = m p := by
        show (m p + 0) % t = m p
        exact Nat.mod_eq_of_lt (h.2.2 p hp).1
      show (m p + (plc [] p).sum) % t < t ∧ ∀ r, r < t → bt (at0 xs r) p = eqN ((m p + (plc [] p).sum) % t) r
      rw [e]
      exact h.2.2 p hp
    | cons q qs ih =>
      intro xs m h X Y o
      obtain ⟨ys, o', h2, h3⟩ := ih (turn1 xs q) _ (h.turn (q := q)) X Y (some (nD q))
      refine ⟨ys, o', ⟨h2.1, h2.2.1, fun p hp => ?_⟩, ?_⟩
      · have e : (m p + (plc (q :: qs) p).sum) % t = ((m p + bt q p) % t + (plc qs p).sum) % t := by
          rw [Nat.mod_add_mod]
          show (m p + (bt q p + (plc qs p).sum)) % t = _
          rw [Nat.add_assoc]
        show (m p + (plc (q :: qs) p).sum) % t < t ∧ ∀ r, r < t → bt (at0 ys r) p = eqN ((m p + (plc (q :: qs) p).sum) % t) r
        rw [e]
        exact h2.2.2 p hp
      · have t1 := turn1_ok (xs := xs) (by rw [h.1]; exact ht) q (some X) (some Y) none
        have hbody : forB (gnm 3) (asg (gnm 2) (lcE (irng1 (un blen (var 2))) [4] (gnm 4) yes (bin oor (bin oand (bin oidx (var 2) (var 4)) (un oinv (var 3))) (bin oand (bin oidx (var 2) (bin osub (var 4) (cst (.int 1)))) (var 3))))) (nD q) [some X, some Y, some (.lst (xs.map nD)), o, none] = .ok (.next [some X, some Y, some (.lst ((turn1 xs q).map nD)), some (nD q), none]) := by
          rw [forB_eq, gnm_eq, lift_some, bind_ok, asg_eq]
          have t1' : lcE (irng1 (un blen (var 2))) [4] (gnm 4) yes (bin oor (bin oand (bin oidx (var 2) (var 4)) (un oinv (var 3))) (bin oand (bin oidx (var 2) (bin osub (var 4) (cst (.int 1)))) (var 3))) (List.set [some X, some Y, some (.lst (xs.map nD)), o, none] 3 (some (nD q))) = _ := t1
          rw [t1', bind_ok]
          rfl
        rw [List.map_cons, forL, hbody]
        exact h3
  intro qs xs m h
  obtain ⟨ys, o', h2, h3⟩ := loop qs xs m h (.lst (xs.map nD)) (.lst (qs.map nD)) none
  refine ⟨ys, ?_, h2⟩
  unfold m_turned_counts
  rw [fn2]
  unfold b_turned_counts
  generalize xs.map nD = A at *
  generalize ys.map nD = B at *
  generalize qs.map nD = PS at *
  simp [var, h3]
theorem lane_counted {W : Nat} {ls : List Nat} (hl : Lns W ls) {p r : Nat} {ps : List Nat} (hx : (Deed.count p r ps).ok ls.length) {xs : List Nat} {m : Nat → Nat} (hh : Hot W p xs m) {R B F : D} {HL Af : List D} (hat : oidx (.lst HL) (.int (Af.length : Int)) = .ok (.lst (xs.map nD))) (hz : ls.length < 10000) (hz2 : Af.length < 10000) (o7 o8 o9 o10 o11 : Option D) :
    ∃ v ys o9', v < 2 ^ W ∧ Hot W p ys (fun q => (Deed.count p r ps).next (plc ls q) (m q)) ∧ (∀ q, q < W → bt v q = (Deed.count p r ps).bit1 (plc ls q) (m q)) ∧
      runB [some R, some B, some (.lst HL), some F, some (.lst (ls.map nD)), some (.lst Af), some (Deed.count p r ps).d, o7, o8, o9, o10, o11] = .ok (.next [some R, some B, some (.lst HL), some F, some (.lst ((ls ++ [v]).map nD)), some (.lst (Af ++ [.lst (ys.map nD)])), some (Deed.count p r ps).d, some (.str "count"), some (nD v), o9', o10, o11]) := by
  have hz' : (ls.map nD).length < SZ := by rw [List.length_map]; exact Nat.lt_trans hz (by decide)
  have hz2' : Af.length < SZ := Nat.lt_trans hz2 (by decide)
  obtain ⟨hp, hr, l1, l4, hps⟩ := hx
  obtain ⟨ys, ht, hy⟩ := turned_lanes (W := W) (t := p) (by omega) (ps.map (at0 ls)) xs m hh
  have hsum : ∀ q, (plc (ps.map (at0 ls)) q).sum = tot (plc ls q) ps := fun q => by
    unfold tot plc
    rw [List.map_map]
    congr 1
    refine List.map_congr_left fun a _ => ?_
    exact (at0_plc ls q a).symm
  have hlr : r < xs.length := by rw [hh.1]; exact hr
  have hv := lst_at0 hlr
  refine ⟨at0 xs r, ys, some (.lst (xs.map nD)), hh.2.1.at r, ⟨hy.1, hy.2.1, fun q hq => ?_⟩, fun q hq => ?_, ?_⟩
  · have := hy.2.2 q hq
    dsimp only at this
    rw [hsum] at this
    exact this
  · have := (hh.2.2 q hq).2 r hr
    rw [this]
    rfl
  rw [List.map_append]
  have s : ∀ t, oeq (.str "count") (.str t) = .ok (.bl ("count" == t)) := fun _ => rfl
  have hc : ∀ a b c d e f g h i k, lcE (iseq (bin oidx (var 6) (cst (.int 3)))) [11] (gnm 11) yes (bin oidx (var 4) (var 11)) [a, b, c, d, some (.lst (ls.map nD)), e, some (Deed.count p r ps).d, f, g, h, i, k] = .ok (.lst ((ps.map (at0 ls)).map nD)) := fun a b c d e f g h i k => by
    rw [List.map_map]
    refine lc_mapI (k := nD) (by simp [var, Deed.d, ixt3]) (Nat.le_trans l4 (by decide)) fun y hy => ?_
    have q := lst_at0 (xs := ls) (hps y hy)
    show ∃ e1, _ ∧ _ = Res.ok (nD (at0 ls y))
    generalize nD (at0 ls y) = u at *
    generalize nD y = z at *
    generalize ls.map nD = L at *
    exact ⟨_, rfl, by simp only [wipe]; simp [var, q]⟩
  have d0 : oidx (Deed.count p r ps).d (.int 0) = .ok (.str "count") := ixt0
  have d2 : oidx (Deed.count p r ps).d (.int 2) = .ok (nD r) := ixt2
  unfold runB
  show _ = Res.ok (Fl.next [_, _, _, _, some (.lst (_ ++ [nD (at0 xs r)])), _, _, _, _, _, _, _])
  generalize ys.map nD = T2 at *
  generalize xs.map nD = T1 at *
  generalize (ps.map (at0 ls)).map nD = PS at *
  generalize nD (at0 xs r) = u at *
  generalize nD r = R2 at *
  generalize ls.map nD = L at *
  generalize (Deed.count p r ps).d = X at *
  simp [var, d0, d2, s, hat, hv, hc, ht, hz', hz2']
end Py.U
namespace Py.U
open PySem
/-! ### all deeds over lanes -/
theorem hd_snoc (hs : List Hd) (h : Hd) : (hs ++ [h]).map Hd.d = hs.map Hd.d ++ [h.d] := by
  rw [List.map_append]
  rfl
theorem stp_m {ms : List Nat} {s : St} {x : Deed} (h : x.marked = true) : stp ms s x = (s.1 ++ [x.bit1 s.1 (ms.getD s.2.length 0)], s.2 ++ [x.next s.1 (ms.getD s.2.length 0)]) := by
  unfold stp
  rw [h, if_pos rfl]
theorem stp_u {ms : List Nat} {s : St} {x : Deed} (h : x.marked = false) : stp ms s x = (s.1 ++ [x.bit0 s.1], s.2) := by
  unfold stp
  rw [h]
  rfl
structure RunL (n W : Nat) (ms : Nat → List Nat) (b : Nat → List Nat) (xs : List Deed) (k : Nat) (ls : List Nat) (hs : List Hd) : Prop where
  ln : Lns W ls
  len : ls.length = n + k
  at_ : ∀ p, p < W → plc ls p = ((xs.take k).foldl (stp (ms p)) (b p, [])).1
  hl : hs.length = (tops (xs.take k)).length
  sl : ∀ p, p < W → ((xs.take k).foldl (stp (ms p)) (b p, [])).2.length = hs.length
  ok : ∀ (j : Nat) (h : Hd) (x : Deed), hs[j]? = some h → (xs.filter Deed.marked)[j]? = some x → h.ok W x fun p => ((xs.take k).foldl (stp (ms p)) (b p, [])).2.getD j 0
theorem Hd.ok.congr {W : Nat} {x : Deed} {m m' : Nat → Nat} {h : Hd} (k : h.ok W x m) (e : ∀ p, p < W → m p = m' p) : h.ok W x m' := by
  cases h with
  | one v =>
    obtain ⟨k1, k2, k3⟩ := k
    exact ⟨k1, k2, fun p hp => by rw [← e p hp]; exact k3 p hp⟩
  | many ys =>
    obtain ⟨k1, k2, k3, k4⟩ := k
    exact ⟨k1, k2, k3, fun p hp => by rw [← e p hp]; exact k4 p hp⟩
theorem marked_at' {xs : List Deed} {k : Nat} (h : k < xs.length) (hm : xs[k].marked = true) : (xs.filter Deed.marked)[(tops (xs.take k)).length]? = some xs[k] := by
  have e : xs = xs.take k ++ (xs[k] :: xs.drop (k + 1)) := by
    rw [← List.drop_eq_getElem_cons h, List.take_append_drop]
  have e2 : xs.filter Deed.marked = (xs.take k).filter Deed.marked ++ (xs[k] :: (xs.drop (k + 1)).filter Deed.marked) := by
    conv => lhs; rw [e]
    rw [List.filter_append, List.filter_cons, hm]
    rfl
  have e3 : (tops (xs.take k)).length = ((xs.take k).filter Deed.marked).length := by
    unfold tops
    rw [List.length_map]
  rw [e2, e3, List.getElem?_append_right (Nat.le_refl _), Nat.sub_self]
  rfl
section
variable {n W out : Nat} {ms b : Nat → List Nat} {xs : List Deed}
theorem run_step {hds : List Hd} (hr : Row n xs) (hz : n + xs.length ≤ 1000) (hds_len : hds.length = (xs.filter Deed.marked).length) (hh : ∀ (j : Nat) (h : Hd) (x : Deed), hds[j]? = some h → (xs.filter Deed.marked)[j]? = some x → h.ok W x fun p => (ms p).getD j 0) {k : Nat} (hk : k < xs.length) {ls : List Nat} {hs : List Hd} (I : RunL n W ms b xs k ls hs) (R B : D) (o7 o8 o9 o10 o11 : Option D) :
    ∃ ls' hs' o7' o8' o9' o10' o11', RunL n W ms b xs (k + 1) ls' hs' ∧ runB [some R, some B, some (.lst (hds.map Hd.d)), some (nD (2 ^ W - 1)), some (.lst (ls.map nD)), some (.lst (hs.map Hd.d)), some xs[k].d, o7, o8, o9, o10, o11] = .ok (.next [some R, some B, some (.lst (hds.map Hd.d)), some (nD (2 ^ W - 1)), some (.lst (ls'.map nD)), some (.lst (hs'.map Hd.d)), some xs[k].d, o7', o8', o9', o10', o11']) := by
  have ht : ∀ p, (xs.take (k + 1)).foldl (stp (ms p)) (b p, []) = stp (ms p) ((xs.take k).foldl (stp (ms p)) (b p, [])) xs[k] := fun p => by
    rw [List.take_add_one, List.foldl_append]
    simp [hk]
  have htk : tops (xs.take (k + 1)) = if xs[k].marked then tops (xs.take k) ++ [xs[k].top] else tops (xs.take k) := by
    rw [List.take_add_one, List.getElem?_eq_getElem hk]
    exact tops_snoc _ _
  have hx : xs[k].ok ls.length := by
    rw [I.len]
    exact hr k hk
  have hlz : ls.length < 10000 := by have := I.len; omega
  have hle : (tops (xs.take k)).length ≤ k := by
    unfold tops
    rw [List.length_map]
    refine Nat.le_trans (List.length_filter_le _ _) ?_
    rw [List.length_take]
    omega
  have hsz : (hs.map Hd.d).length < 10000 := by rw [List.length_map, I.hl]; omega
  rcases deed_cases xs[k] with hm | ⟨hm, hc⟩ | ⟨p0, r0, ps0, hcnt⟩
  · obtain ⟨v, v1, v2, v3⟩ := lane_plain I.ln hm hx (R := R) (B := B) (HL := .lst (hds.map Hd.d)) (Af := hs.map Hd.d) hlz o7 o8 o9 o10 o11
    have hst : ∀ p, stp (ms p) ((xs.take k).foldl (stp (ms p)) (b p, [])) xs[k] = (((xs.take k).foldl (stp (ms p)) (b p, [])).1 ++ [xs[k].bit0 ((xs.take k).foldl (stp (ms p)) (b p, [])).1], ((xs.take k).foldl (stp (ms p)) (b p, [])).2) := fun p => by
      rw [stp_u hm]
    refine ⟨ls ++ [v], hs, _, _, _, _, _, ⟨I.ln.snoc v1, by rw [List.length_append, I.len]; rfl, fun p hp => ?_, ?_, fun p hp => ?_, fun j h x e1 e2 => ?_⟩, v3⟩
    · rw [ht, hst, plc_snoc, I.at_ p hp, v2 p hp, I.at_ p hp]
    · rw [htk, hm]
      exact I.hl
    · rw [ht, hst]
      exact I.sl p hp
    · exact (I.ok j h x e1 e2).congr fun p hp => by rw [ht, hst]
  · have hma := marked_at' hk hm
    rw [← I.hl] at hma
    have hlt : hs.length < hds.length := by
      rw [hds_len]
      exact (List.getElem?_eq_some_iff.mp hma).1
    have hd0 : hds[hs.length]? = some hds[hs.length] := List.getElem?_eq_getElem hlt
    have hok := hh _ _ _ hd0 hma
    generalize hds[hs.length] = hd at hd0 hok
    cases hd with
    | many ys =>
      have := hok.1
      rw [hc] at this
      cases this
    | one m =>
      obtain ⟨_, m1, m2⟩ := hok
      obtain ⟨v, nx, c1, c2, c3, c4⟩ := lane_carry I.ln hm hc m1
      have hat : oidx (.lst (hds.map Hd.d)) (.int (((hs.map Hd.d).length : Nat) : Int)) = .ok (nD m) := oidx_l (k := (hs.map Hd.d).length) (by
        rw [List.length_map, List.getElem?_map, hd0]
        rfl)
      have v3 := lane_carried I.ln hm hc hx (R := R) (B := B) (F := nD (2 ^ W - 1)) hat hlz hsz c1 o7 o8 o9 o10 o11
      have hst : ∀ p, p < W → stp (ms p) ((xs.take k).foldl (stp (ms p)) (b p, [])) xs[k] = (((xs.take k).foldl (stp (ms p)) (b p, [])).1 ++ [bt v p], ((xs.take k).foldl (stp (ms p)) (b p, [])).2 ++ [bt nx p]) := fun p hp => by
        obtain ⟨q1, q2⟩ := c4 p
        rw [I.at_ p hp, (m2 p hp).2] at q1 q2
        rw [stp_m hm, I.sl p hp, q1, q2]
      refine ⟨ls ++ [v], hs ++ [.one nx], _, _, _, _, _, ⟨I.ln.snoc c2, by rw [List.length_append, I.len]; rfl, fun p hp => ?_, ?_, fun p hp => ?_, fun j h x e1 e2 => ?_⟩, by rw [hd_snoc]; exact v3⟩
      · rw [ht, hst p hp, plc_snoc, I.at_ p hp]
      · rw [htk, hm, if_pos rfl, List.length_append, List.length_append, I.hl]
        rfl
      · rw [ht, hst p hp, List.length_append, List.length_append, I.sl p hp]
        rfl
      · by_cases q : j < hs.length
        · rw [List.getElem?_append_left q] at e1
          refine (I.ok j h x e1 e2).congr fun p hp => ?_
          rw [ht, hst p hp]
          show _ = (_ ++ [bt nx p]).getD j 0
          rw [List.getD_eq_getElem?_getD, List.getD_eq_getElem?_getD, List.getElem?_append_left (by rw [I.sl p hp]; exact q)]
        · rw [List.getElem?_append_right (by omega)] at e1
          have hj : j = hs.length := by
            have := (List.getElem?_eq_some_iff.mp e1).1
            simp at this
            omega
          subst hj
          rw [Nat.sub_self] at e1
          cases e1
          rw [hma] at e2
          cases e2
          have eg : ∀ p, p < W → ((xs.take (k + 1)).foldl (stp (ms p)) (b p, [])).2.getD hs.length 0 = bt nx p := fun p hp => by
            rw [ht, hst p hp]
            show (_ ++ [bt nx p]).getD hs.length 0 = _
            rw [List.getD_eq_getElem?_getD, List.getElem?_append_right (by rw [I.sl p hp]; exact Nat.le_refl _), I.sl p hp, Nat.sub_self]
            rfl
          exact ⟨hc, c3, fun p hp => by
            dsimp only
            rw [eg p hp]
            exact ⟨by have := bt01 nx p; omega, rfl⟩⟩
  · have hm : xs[k].marked = true := by rw [hcnt]; rfl
    have hma := marked_at' hk hm
    rw [← I.hl] at hma
    have hlt : hs.length < hds.length := by
      rw [hds_len]
      exact (List.getElem?_eq_some_iff.mp hma).1
    have hd0 : hds[hs.length]? = some hds[hs.length] := List.getElem?_eq_getElem hlt
    have hok := hh _ _ _ hd0 hma
    generalize hds[hs.length] = hd at hd0 hok
    rw [hcnt] at hok hx hma ⊢
    cases hd with
    | one m =>
      have := hok.1
      cases this
    | many ys =>
      obtain ⟨_, hot⟩ := hok
      have hat : oidx (.lst (hds.map Hd.d)) (.int (((hs.map Hd.d).length : Nat) : Int)) = .ok (.lst (ys.map nD)) := oidx_l (k := (hs.map Hd.d).length) (by
        rw [List.length_map, List.getElem?_map, hd0]
        rfl)
      obtain ⟨v, zs, o9', c2, c3, c4, v3⟩ := lane_counted I.ln hx hot (R := R) (B := B) (F := nD (2 ^ W - 1)) hat hlz hsz o7 o8 o9 o10 o11
      have hst : ∀ p, p < W → stp (ms p) ((xs.take k).foldl (stp (ms p)) (b p, [])) xs[k] = (((xs.take k).foldl (stp (ms p)) (b p, [])).1 ++ [bt v p], ((xs.take k).foldl (stp (ms p)) (b p, [])).2 ++ [(Deed.count p0 r0 ps0).next (plc ls p) ((ms p).getD hs.length 0)]) := fun p hp => by
        have q1 := c4 p hp
        rw [stp_m hm, I.sl p hp, q1, hcnt, I.at_ p hp]
      refine ⟨ls ++ [v], hs ++ [.many zs], _, _, _, _, _, ⟨I.ln.snoc c2, by rw [List.length_append, I.len]; rfl, fun p hp => ?_, ?_, fun p hp => ?_, fun j h x e1 e2 => ?_⟩, by rw [hd_snoc]; exact v3⟩
      · rw [ht, hst p hp, plc_snoc, I.at_ p hp]
      · rw [htk, hm, if_pos rfl, List.length_append, List.length_append, I.hl]
        rfl
      · rw [ht, hst p hp, List.length_append, List.length_append, I.sl p hp]
        rfl
      · by_cases q : j < hs.length
        · rw [List.getElem?_append_left q] at e1
          refine (I.ok j h x e1 e2).congr fun p hp => ?_
          rw [ht, hst p hp]
          show _ = (_ ++ [_]).getD j 0
          rw [List.getD_eq_getElem?_getD, List.getD_eq_getElem?_getD, List.getElem?_append_left (by rw [I.sl p hp]; exact q)]
        · rw [List.getElem?_append_right (by omega)] at e1
          have hj : j = hs.length := by
            have := (List.getElem?_eq_some_iff.mp e1).1
            simp at this
            omega
          subst hj
          rw [Nat.sub_self] at e1
          cases e1
          rw [hma] at e2
          cases e2
          have eg : ∀ p, p < W → ((xs.take (k + 1)).foldl (stp (ms p)) (b p, [])).2.getD hs.length 0 = (Deed.count p0 r0 ps0).next (plc ls p) ((ms p).getD hs.length 0) := fun p hp => by
            rw [ht, hst p hp]
            show (_ ++ [_]).getD hs.length 0 = _
            rw [List.getD_eq_getElem?_getD, List.getElem?_append_right (by rw [I.sl p hp]; exact Nat.le_refl _), I.sl p hp, Nat.sub_self]
            rfl
          have base : (Hd.many zs).ok W (Deed.count p0 r0 ps0) (fun p => (Deed.count p0 r0 ps0).next (plc ls p) ((ms p).getD hs.length 0)) := ⟨rfl, c3⟩
          exact base.congr fun p hp => (eg p hp).symm
/-- what the deeds give over lanes -/
theorem run_lanes {hds : List Hd} {ls0 : List Nat} (hr : Row n xs) (hz : n + xs.length ≤ 1000) (hl0 : Lns W ls0) (hn : ls0.length = n) (hb : ∀ p, p < W → plc ls0 p = b p) (hds_len : hds.length = (xs.filter Deed.marked).length) (hh : ∀ (j : Nat) (h : Hd) (x : Deed), hds[j]? = some h → (xs.filter Deed.marked)[j]? = some x → h.ok W x fun p => (ms p).getD j 0) :
    ∃ ls hs, RunL n W ms b xs xs.length ls hs ∧ m_run_deeds [rowD n xs out, .lst (ls0.map nD), .lst (hds.map Hd.d), nD (2 ^ W - 1)] = .ok (.tup [.lst (ls.map nD), .lst (hs.map Hd.d)]) := by
  have rd := row_deeds n xs out
  obtain ⟨e', lp, ls, hs, o6, o7, o8, o9, o10, o11, I, rfl⟩ := forL_inv (b := forB (gnm 6) runB) (xs := xs.map Deed.d) (e := [some (rowD n xs out), some (.lst (ls0.map nD)), some (.lst (hds.map Hd.d)), some (nD (2 ^ W - 1)), some (.lst (ls0.map nD)), some (.lst []), none, none, none, none, none, none])
    (fun k E => ∃ ls hs o6 o7 o8 o9 o10 o11, RunL n W ms b xs k ls hs ∧ E = [some (rowD n xs out), some (.lst (ls0.map nD)), some (.lst (hds.map Hd.d)), some (nD (2 ^ W - 1)), some (.lst (ls.map nD)), some (.lst (hs.map Hd.d)), o6, o7, o8, o9, o10, o11]) 0
    ⟨ls0, [], none, none, none, none, none, none, ⟨hl0, by simpa using hn, fun p hp => hb p hp, rfl, fun p _ => rfl, fun j h x e => by simp at e⟩, rfl⟩ (by
      rintro k E hk ⟨ls, hs, o6, o7, o8, o9, o10, o11, I, rfl⟩
      have hk' : k < xs.length := by simpa using hk
      rw [Nat.zero_add] at I ⊢
      obtain ⟨ls', hs', q7, q8, q9, q10, q11, I', e⟩ := run_step hr hz hds_len hh hk' I (rowD n xs out) (.lst (ls0.map nD)) o7 o8 o9 o10 o11
      refine ⟨_, ?_, ls', hs', some xs[k].d, q7, q8, q9, q10, q11, I', rfl⟩
      rw [forB_eq, gnm_eq, lift_some, bind_ok, List.getElem_map]
      exact e)
  rw [Nat.zero_add, List.length_map] at I
  refine ⟨ls, hs, I, ?_⟩
  unfold m_run_deeds
  rw [fn4]
  show done (seq (asg (gnm 4) (un blist (var 1))) (seq (asg (gnm 5) (lstE argN)) (seq (for_ (iseq (un (oattr ["Row"] "deeds") (var 0))) (gnm 6) runB) (ret (tupE (argC (var 4) (argC (var 5) argN)))))) [some (rowD n xs out), some (.lst (ls0.map nD)), some (.lst (hds.map Hd.d)), some (nD (2 ^ W - 1)), none, none, none, none, none, none, none, none]) = _
  refine (congrArg done ((asg_pass (d := .lst (ls0.map nD)) (by simp [var])).trans ?_)).trans (done_ret (.tup [.lst (ls.map nD), .lst (hs.map Hd.d)]))
  refine (asg_pass (d := .lst []) (by simp)).trans ?_
  refine (for_pass (xs := xs.map Deed.d) ?_ lp).trans ?_
  · generalize rowD n xs out = R at *
    generalize xs.map Deed.d = XS at *
    simp [var, rd]
  · generalize ls.map nD = A at *
    generalize hs.map Hd.d = B at *
    simp [var]
end
end Py.U
namespace Py.U
open PySem
/-! ### marks spread over lanes -/
theorem l248 {n : Nat} (h1 : 1 ≤ n) (h3 : n ≤ 3) : 2 ^ n = 2 ∨ 2 ^ n = 4 ∨ 2 ^ n = 8 := by
  have : n = 1 ∨ n = 2 ∨ n = 3 := by omega
  rcases this with rfl | rfl | rfl
  · exact .inl rfl
  · exact .inr (.inl rfl)
  · exact .inr (.inr rfl)
theorem shl_blk {L : Nat} (hL : L = 2 ∨ L = 4 ∨ L = 8) {k : Nat} (hk : k ≤ 100000) : oshl (nD (2 ^ L - 1)) (nD k) = .ok (nD ((2 ^ L - 1) * 2 ^ k)) := by
  have key : ∀ b : Nat, (Builtin.Int.intBits (b : Int) : Int) ≤ 8 → oshl (nD b) (nD k) = .ok (nD (b * 2 ^ k)) := fun b hb => by
    unfold nD
    rw [oshl_ii ⟨Int.natCast_nonneg k, by omega⟩, Int.toNat_natCast]
    simp
  rcases hL with rfl | rfl | rfl <;> exact key _ (by decide)
theorem oiorN (a b : Nat) : oior (nD a) (nD b) = .ok (nD (a ||| b)) := by
  have := bor_nat a b
  unfold nD
  show Res.ok (D.int (Builtin.bitOr (a : Int) (b : Int))) = _
  rw [this]
def spB : SM := (Py.ite (tst (bin oeq (bin oidx (var 7) (var 1)) (var 2))) (aug 5 oior (bin oshl (var 3) (bin omul (var 6) (var 4)))) skip)
section
variable {L M W : Nat} {many : List (List Nat)}
/-- the marks that stand at a place of the lanes -/
def msP (L : Nat) (many : List (List Nat)) (p : Nat) : List Nat := many.getD (p / L) []
theorem spread_lanes (hL : L = 2 ∨ L = 4 ∨ L = 8) {pl r : Nat} (hm : ∀ ms ∈ many, pl < ms.length) (hz : many.length ≤ 1000) :
    ∃ v, v < 2 ^ (L * many.length) ∧ (∀ p, p < L * many.length → bt v p = eqN (at0 (msP L many p) pl) r) ∧ m_spread_mark [.lst (many.map rD), nD pl, nD r, nD (2 ^ L - 1), nD L] = .ok (nD v) := by
  have hL0 : 0 < L := by omega
  obtain ⟨e', lp, v, o6, o7, hv, hb, rfl⟩ := forL_inv (b := forB (gtup [(gnm 6), (gnm 7)]) spB) (xs := enumL 0 (many.map rD)) (e := [some (.lst (many.map rD)), some (nD pl), some (nD r), some (nD (2 ^ L - 1)), some (nD L), some (nD 0), none, none])
    (fun i E => ∃ v o6 o7, v < 2 ^ (L * i) ∧ (∀ p, p < L * i → bt v p = eqN (at0 (msP L many p) pl) r) ∧ E = [some (.lst (many.map rD)), some (nD pl), some (nD r), some (nD (2 ^ L - 1)), some (nD L), some (nD v), o6, o7]) 0
    ⟨0, none, none, Nat.two_pow_pos _, fun p hp => by omega, rfl⟩ (by
      rintro i E hi ⟨v, o6, o7, hv, hb, rfl⟩
      rw [Nat.zero_add] at hv hb ⊢
      have hi2 : i < many.length := by
        rw [enum_len, List.length_map] at hi
        exact hi
      rw [enum_at hi (by simpa using hi2), List.getElem_map, Nat.zero_add]
      have hmi := hm _ (List.getElem_mem hi2)
      have eM : ∀ p, L * i ≤ p → p < L * (i + 1) → msP L many p = many[i] := fun p h1 h2 => by
        have : p / L = i := by
          rw [Nat.div_eq_of_lt_le (by rw [Nat.mul_comm]; exact h1) (by rw [Nat.mul_comm]; exact h2)]
        unfold msP
        rw [this, List.getD_eq_getElem?_getD, List.getElem?_eq_getElem hi2]
        rfl
      have hx : oidx (rD many[i]) (nD pl) = .ok (nD (at0 many[i] pl)) := oidx_t (k := pl) (by
        rw [List.getElem?_map, List.getElem?_eq_getElem hmi]
        unfold at0
        rw [List.getD_eq_getElem?_getD, List.getElem?_eq_getElem hmi]
        rfl)
      have he := nat_eq (at0 many[i] pl) r
      have hw : L * (i + 1) = L * i + L := Nat.mul_succ L i
      have hlow : ∀ p, p < L * i → bt v p = eqN (at0 (msP L many p) pl) r := hb
      generalize many[i] = ms at *
      by_cases c : at0 ms pl = r
      · rw [decide_eq_true c] at he
        have m1 := nmul (a := i) (b := L) (by omega)
        have sh := shl_blk hL (k := i * L) (by
          have : i * L ≤ 1000 * 8 := Nat.mul_le_mul (by omega) (by omega)
          omega)
        have o1 := oiorN v ((2 ^ L - 1) * 2 ^ (i * L))
        refine ⟨[some (.lst (many.map rD)), some (nD pl), some (nD r), some (nD (2 ^ L - 1)), some (nD L), some (nD (v ||| ((2 ^ L - 1) * 2 ^ (i * L)))), some (nD i), some (rD ms)], ?_, _, _, _, ?_, fun p hp => ?_, rfl⟩
        · show (lift (gtup [(gnm 6), (gnm 7)] (.tup [nD i, rD ms]) [some (.lst (many.map rD)), some (nD pl), some (nD r), some (nD (2 ^ L - 1)), some (nD L), some (nD v), o6, o7]) >>= spB) = _
          generalize nD (v ||| ((2 ^ L - 1) * 2 ^ (i * L))) = V2 at *
          generalize nD ((2 ^ L - 1) * 2 ^ (i * L)) = V3 at *
          generalize nD (i * L) = IL at *
          generalize nD (2 ^ L - 1) = BL at *
          generalize nD (at0 ms pl) = A at *
          generalize rD ms = RM at *
          generalize many.map rD = MM at *
          generalize nD pl = P at *
          generalize nD r = RR at *
          generalize nD L = LL at *
          generalize nD i = II at *
          generalize nD v = VV at *
          simp [spB, var, gtup, gtupL, hx, he, m1, sh, o1]
        · have hb2 : (2 ^ L - 1) * 2 ^ (i * L) < 2 ^ (L * (i + 1)) := by
            rw [hw, Nat.pow_add, Nat.mul_comm i L, Nat.mul_comm (2 ^ (L * i))]
            exact Nat.mul_lt_mul_of_pos_right (by have := Nat.two_pow_pos L; omega) (Nat.two_pow_pos _)
          exact Nat.or_lt_two_pow (Nat.lt_of_lt_of_le hv (Nat.pow_le_pow_right (by decide) (by omega))) hb2
        · rw [bt_or, bt_block, Nat.mul_comm i L]
          by_cases q : p < L * i
          · have e0 : (if L * i ≤ p ∧ p < L * i + L then 1 else 0 : Nat) = 0 := if_neg fun z => by omega
            rw [e0, hlow p q, Nat.add_zero]
            unfold eqN
            by_cases z : at0 (msP L many p) pl = r
            · simp [z]
            · simp [z]
          · have e0 : (if L * i ≤ p ∧ p < L * i + L then 1 else 0 : Nat) = 1 := if_pos ⟨by omega, by omega⟩
            rw [e0, bt_high hv (by omega), eM p (by omega) hp]
            unfold eqN
            rw [if_pos c]
            rfl
      · rw [decide_eq_false c] at he
        refine ⟨[some (.lst (many.map rD)), some (nD pl), some (nD r), some (nD (2 ^ L - 1)), some (nD L), some (nD v), some (nD i), some (rD ms)], ?_, _, _, _, Nat.lt_of_lt_of_le hv (Nat.pow_le_pow_right (by decide) (by omega)), fun p hp => ?_, rfl⟩
        · show (lift (gtup [(gnm 6), (gnm 7)] (.tup [nD i, rD ms]) [some (.lst (many.map rD)), some (nD pl), some (nD r), some (nD (2 ^ L - 1)), some (nD L), some (nD v), o6, o7]) >>= spB) = _
          generalize nD (2 ^ L - 1) = BL at *
          generalize nD (at0 ms pl) = A at *
          generalize rD ms = RM at *
          generalize many.map rD = MM at *
          generalize nD pl = P at *
          generalize nD r = RR at *
          generalize nD L = LL at *
          generalize nD i = II at *
          generalize nD v = VV at *
          simp [spB, var, gtup, gtupL, hx, he]
        · by_cases q : p < L * i
          · exact hlow p q
          · rw [bt_high hv (by omega), eM p (by omega) hp]
            unfold eqN
            rw [if_neg c])
  rw [Nat.zero_add, enum_len, List.length_map] at hv hb
  refine ⟨v, hv, hb, ?_⟩
  unfold m_spread_mark
  rw [fn_eq (p := 5) rfl]
  show done (seq (asg (gnm 5) (cst (.int 0))) (seq (for_ (ienum (var 0)) (gtup [(gnm 6), (gnm 7)]) spB) (ret (var 5))) [some (.lst (many.map rD)), some (nD pl), some (nD r), some (nD (2 ^ L - 1)), some (nD L), none, none, none]) = _
  refine (congrArg done ((asg_pass (d := nD 0) rfl).trans ?_)).trans (done_ret (nD v))
  refine (for_pass (xs := enumL 0 (many.map rD)) rfl lp).trans ?_
  rfl
def heldB : SM := (Py.ite (tst (bin oeq (bin oidx (var 6) (cst (.int 0))) (cst (.str "count")))) (app 4 (lcE (irng1 (bin oidx (var 6) (cst (.int 1)))) [7] (gnm 7) yes (call m_spread_mark (argC (var 1) (argC (var 5) (argC (var 7) (argC (var 2) (argC (var 3) argN)))))))) (app 4 (call m_spread_mark (argC (var 1) (argC (var 5) (argC (cst (.int 1)) (argC (var 2) (argC (var 3) argN))))))))
theorem fit_at {ms ts : List Nat} (h : Fit ms ts) {j : Nat} (hj : j < ts.length) : at0 ms j < ts[j] := h.at (by simp [hj])
theorem held_lanes_ok {n out : Nat} {xs : List Deed} (hL : L = 2 ∨ L = 4 ∨ L = 8) (hz : many.length ≤ 1000) (hxz : xs.length ≤ 1000) (hf : ∀ ms ∈ many, Fit ms (tops xs)) (h5 : ∀ x ∈ xs, x.top ≤ 5) :
    ∃ hds : List Hd, hds.length = (xs.filter Deed.marked).length ∧ (∀ (j : Nat) (h : Hd) (x : Deed), hds[j]? = some h → (xs.filter Deed.marked)[j]? = some x → h.ok (L * many.length) x fun p => (msP L many p).getD j 0) ∧ m_held_lanes [rowD n xs out, .lst (many.map rD), nD (2 ^ L - 1), nD L] = .ok (.lst (hds.map Hd.d)) := by
  have hd := mark_deeds_ok (n := n) (out := out) hxz
  have h5' : ∀ x ∈ xs.filter Deed.marked, x.top ≤ 5 := fun x hx => h5 x (List.mem_filter.mp hx).1
  have hl2 : ∀ ms ∈ many, ms.length = (xs.filter Deed.marked).length := fun ms h => by
    have := (hf ms h).len
    unfold tops at this
    rw [List.length_map] at this
    exact this
  have hlen : (xs.filter Deed.marked).length ≤ 1000 := Nat.le_trans (List.length_filter_le _ _) hxz
  have hin : ∀ p, p < L * many.length → msP L many p ∈ many := fun p hp => by
    unfold msP
    have : p / L < many.length := Nat.div_lt_of_lt_mul hp
    rw [List.getD_eq_getElem?_getD, List.getElem?_eq_getElem this]
    exact List.getElem_mem this
  obtain ⟨e', lp, hds, o5, o6, k1, k2, rfl⟩ := forL_inv (b := forB (gtup [(gnm 5), (gnm 6)]) heldB) (xs := enumL 0 ((xs.filter Deed.marked).map Deed.d)) (e := [some (rowD n xs out), some (.lst (many.map rD)), some (nD (2 ^ L - 1)), some (nD L), some (.lst []), none, none, none])
    (fun k E => ∃ (hds : List Hd) (o5 o6 : Option D), hds.length = k ∧ (∀ (j : Nat) (h : Hd) (x : Deed), hds[j]? = some h → (xs.filter Deed.marked)[j]? = some x → h.ok (L * many.length) x fun p => (msP L many p).getD j 0) ∧ E = [some (rowD n xs out), some (.lst (many.map rD)), some (nD (2 ^ L - 1)), some (nD L), some (.lst (hds.map Hd.d)), o5, o6, none]) 0
    ⟨[], none, none, rfl, fun j h x e => by simp at e, rfl⟩ (by
      rintro k E hk ⟨hds, o5, o6, k1, k2, rfl⟩
      rw [Nat.zero_add] at k1 ⊢
      have hk2 : k < (xs.filter Deed.marked).length := by
        rw [enum_len, List.length_map] at hk
        exact hk
      rw [enum_at hk (by simpa using hk2), List.getElem_map, Nat.zero_add]
      have hx : (xs.filter Deed.marked)[k]? = some (xs.filter Deed.marked)[k] := List.getElem?_eq_getElem hk2
      have htop := h5' _ (List.getElem_mem hk2)
      have hlt : ∀ p, p < L * many.length → (msP L many p).getD k 0 < (xs.filter Deed.marked)[k].top := fun p hp => by
        have := fit_at (hf _ (hin p hp)) (j := k) (by unfold tops; simpa using hk2)
        unfold tops at this
        rw [List.getElem_map] at this
        exact this
      generalize (xs.filter Deed.marked)[k] = x at *
      have e1 := deed_name x
      have e2 := count_first x
      have hpl : ∀ ms ∈ many, k < ms.length := fun ms h => by rw [hl2 ms h]; exact hk2
      have zz : (hds.map Hd.d).length < SZ := by rw [List.length_map, k1]; exact Nat.lt_of_lt_of_le hk2 (Nat.le_trans hlen (by decide))
      have add : ∀ (hd : Hd), hd.ok (L * many.length) x (fun p => (msP L many p).getD k 0) → heldB [some (rowD n xs out), some (.lst (many.map rD)), some (nD (2 ^ L - 1)), some (nD L), some (.lst (hds.map Hd.d)), some (nD k), some x.d, none] = .ok (.next [some (rowD n xs out), some (.lst (many.map rD)), some (nD (2 ^ L - 1)), some (nD L), some (.lst (hds.map Hd.d ++ [hd.d])), some (nD k), some x.d, none]) → ∃ e', forB (gtup [(gnm 5), (gnm 6)]) heldB (.tup [.int ((k : Nat) : Int), x.d]) [some (rowD n xs out), some (.lst (many.map rD)), some (nD (2 ^ L - 1)), some (nD L), some (.lst (hds.map Hd.d)), o5, o6, none] = .ok (.next e') ∧ ∃ (hds : List Hd) (o5 o6 : Option D), hds.length = k + 1 ∧ (∀ (j : Nat) (h : Hd) (x : Deed), hds[j]? = some h → (xs.filter Deed.marked)[j]? = some x → h.ok (L * many.length) x fun p => (msP L many p).getD j 0) ∧ e' = [some (rowD n xs out), some (.lst (many.map rD)), some (nD (2 ^ L - 1)), some (nD L), some (.lst (hds.map Hd.d)), o5, o6, none] := fun hd ok he => by
        refine ⟨_, he, hds ++ [hd], some (nD k), some x.d, by rw [List.length_append, k1]; rfl, fun j h x' e1 e2 => ?_, by rw [hd_snoc]⟩
        by_cases q : j < hds.length
        · rw [List.getElem?_append_left q] at e1
          exact k2 j h x' e1 e2
        · rw [List.getElem?_append_right (by omega)] at e1
          have hj : j = k := by
            have := (List.getElem?_eq_some_iff.mp e1).1
            simp at this
            omega
          subst hj
          rw [k1, Nat.sub_self] at e1
          cases e1
          rw [hx] at e2
          cases e2
          exact ok
      cases hc : x.isCount with
      | false =>
        obtain ⟨v, v1, v2, v3⟩ := spread_lanes hL (r := 1) hpl hz
        refine add (.one v) ⟨hc, v1, fun p hp => ?_⟩ ?_
        · have h2 := hlt p hp
          rw [top_plain hc] at h2
          have := v2 p hp
          refine ⟨h2, ?_⟩
          rw [this]
          show (if (msP L many p).getD k 0 = 1 then 1 else 0) = (msP L many p).getD k 0
          change (msP L many p).getD k 0 < 2 at h2
          generalize (msP L many p).getD k 0 = g at *
          split <;> omega
        · rw [hc] at e2
          change m_spread_mark [_, _, .int 1, _, _] = _ at v3
          show _ = Res.ok (Fl.next [_, _, _, _, some (.lst (_ ++ [nD v])), _, _, _])
          unfold heldB
          generalize nD v = V at *
          generalize nD k = KK at *
          generalize nD L = LL at *
          generalize nD (2 ^ L - 1) = BL at *
          generalize many.map rD = MM at *
          generalize hds.map Hd.d = HH at *
          generalize x.d = X at *
          simp [var, e1, e2, v3, zz]
      | true =>
        have h3 := top_count hc
        have key : ∀ t, ∃ vs : List Nat, vs.length = t ∧ Lns (L * many.length) vs ∧ ∀ r, r < t → (∀ p, p < L * many.length → bt (at0 vs r) p = eqN ((msP L many p).getD k 0) r) ∧ m_spread_mark [.lst (many.map rD), nD k, nD r, nD (2 ^ L - 1), nD L] = .ok (nD (at0 vs r)) := fun t => by
          induction t with
          | zero => exact ⟨[], rfl, fun x hx => (List.not_mem_nil hx).elim, fun r hr => absurd hr (Nat.not_lt_zero r)⟩
          | succ t ih =>
            obtain ⟨vs, w1, w2, w3⟩ := ih
            obtain ⟨v, v1, v2, v3⟩ := spread_lanes hL (r := t) hpl hz
            refine ⟨vs ++ [v], by rw [List.length_append, w1]; rfl, w2.snoc v1, fun r hr => ?_⟩
            by_cases q : r < t
            · have e : at0 (vs ++ [v]) r = at0 vs r := by
                unfold at0
                rw [List.getD_eq_getElem?_getD, List.getD_eq_getElem?_getD, List.getElem?_append_left (by omega)]
              rw [e]
              exact w3 r q
            · have er : r = t := by omega
              subst er
              have e : at0 (vs ++ [v]) r = v := by
                unfold at0
                rw [List.getD_eq_getElem?_getD, List.getElem?_append_right (by omega), w1, Nat.sub_self]
                rfl
              rw [e]
              exact ⟨v2, v3⟩
        obtain ⟨vs, w1, w2, w3⟩ := key x.top
        refine add (.many vs) ⟨hc, w1, w2, fun p hp => ⟨hlt p hp, fun r hr => (w3 r hr).1 p hp⟩⟩ ?_
        rw [hc] at e2
        have hr : irng1 (bin oidx (var 6) (cst (.int 1))) [some (rowD n xs out), some (.lst (many.map rD)), some (nD (2 ^ L - 1)), some (nD L), some (.lst (hds.map Hd.d)), some (nD k), some x.d, none] = .ok ((List.range x.top).map fun i => .int ((i : Nat) : Int)) := irng1_nat (n := x.top) (by simp [var, h3]; rfl) (rng_lt (by omega))
        have hcl : lcE (irng1 (bin oidx (var 6) (cst (.int 1)))) [7] (gnm 7) yes (call m_spread_mark (argC (var 1) (argC (var 5) (argC (var 7) (argC (var 2) (argC (var 3) argN)))))) [some (rowD n xs out), some (.lst (many.map rD)), some (nD (2 ^ L - 1)), some (nD L), some (.lst (hds.map Hd.d)), some (nD k), some x.d, none] = .ok (.lst (vs.map nD)) := by
          have ev : vs.map nD = (List.range x.top).map fun r => nD (at0 vs r) := by
            apply List.ext_getElem
            · simp [w1]
            · intro i a1 a2
              have : i < vs.length := by simpa using a1
              simp [at0, this]
          rw [ev]
          refine lc_mapI (k := fun i => .int ((i : Nat) : Int)) hr (by rw [List.length_range]; exact le_sz (by omega)) fun r hrr => ?_
          have v3 := (w3 r (List.mem_range.mp hrr)).2
          change m_spread_mark [_, _, .int (r : Int), _, _] = _ at v3
          generalize nD (at0 vs r) = q at *
          generalize (r : Int) = z at *
          generalize nD k = KK at *
          generalize nD L = LL at *
          generalize nD (2 ^ L - 1) = BL at *
          generalize many.map rD = MM at *
          exact ⟨_, rfl, by simp only [wipe]; simp [var, v3]⟩
        show _ = Res.ok (Fl.next [_, _, _, _, some (.lst (_ ++ [.lst (vs.map nD)])), _, _, _])
        unfold heldB
        generalize D.lst (vs.map nD) = V at *
        generalize nD k = KK at *
        generalize nD L = LL at *
        generalize nD (2 ^ L - 1) = BL at *
        generalize many.map rD = MM at *
        generalize hds.map Hd.d = HH at *
        generalize x.d = X at *
        simp [var, e1, e2, hcl, zz])
  rw [Nat.zero_add, enum_len, List.length_map] at k1
  refine ⟨hds, k1, k2, ?_⟩
  unfold m_held_lanes
  rw [fn4]
  show done (seq (asg (gnm 4) (lstE argN)) (seq (for_ (ienum (call m_mark_deeds (argC (var 0) argN))) (gtup [(gnm 5), (gnm 6)]) heldB) (ret (var 4))) [some (rowD n xs out), some (.lst (many.map rD)), some (nD (2 ^ L - 1)), some (nD L), none, none, none, none]) = _
  refine (congrArg done ((asg_pass (d := .lst []) (by simp)).trans ?_)).trans (done_ret (.lst (hds.map Hd.d)))
  refine (for_pass (xs := enumL 0 ((xs.filter Deed.marked).map Deed.d)) ?_ lp).trans ?_
  · unfold ienum
    generalize rowD n xs out = R at *
    generalize (xs.filter Deed.marked).map Deed.d = Y at *
    simp [var, hd]
  · rfl
end
end Py.U
namespace Py.U
open PySem
/-! ### the lanes of many marks -/
/-- the block in which bit j of each letter stands -/
def bp : Nat → Nat → Nat
  | 1, _ => 2
  | 2, 0 => 10
  | 2, _ => 12
  | _, 0 => 170
  | _, 1 => 204
  | _, _ => 240
theorem bp_lt {n j : Nat} (h1 : 1 ≤ n) (h3 : n ≤ 3) (hj : j < n) : bp n j < 2 ^ 2 ^ n := by
  have : n = 1 ∨ n = 2 ∨ n = 3 := by omega
  rcases this with rfl | rfl | rfl
  · have : j = 0 := by omega
    subst this
    decide
  · have : j = 0 ∨ j = 1 := by omega
    rcases this with rfl | rfl <;> decide
  · have : j = 0 ∨ j = 1 ∨ j = 2 := by omega
    rcases this with rfl | rfl | rfl <;> decide
theorem bp_bit {n j : Nat} (h1 : 1 ≤ n) (h3 : n ≤ 3) (hj : j < n) : ∀ q, q < 2 ^ n → bt (bp n j) q = q / 2 ^ j % 2 := by
  have : n = 1 ∨ n = 2 ∨ n = 3 := by omega
  rcases this with rfl | rfl | rfl
  · have : j = 0 := by omega
    subst this
    decide
  · have : j = 0 ∨ j = 1 := by omega
    rcases this with rfl | rfl <;> decide
  · have : j = 0 ∨ j = 1 ∨ j = 2 := by omega
    rcases this with rfl | rfl | rfl <;> decide
def begL (n M : Nat) (k : Nat) : List Nat := (List.range k).map fun j => bp n j * rpt (2 ^ n) M
theorem begL_lns {n M k : Nat} (h1 : 1 ≤ n) (h3 : n ≤ 3) (hk : k ≤ n) : Lns (2 ^ n * M) (begL n M k) := fun x hx => by
  obtain ⟨j, hj, rfl⟩ := List.mem_map.mp hx
  exact rpt_lt (Nat.two_pow_pos n) (bp_lt h1 h3 (by have := List.mem_range.mp hj; omega)) M
theorem begL_plc {n M p : Nat} (h1 : 1 ≤ n) (h3 : n ≤ 3) (hp : p < 2 ^ n * M) : plc (begL n M n) p = lb n (p % 2 ^ n) := by
  unfold plc begL lb
  rw [List.map_map]
  refine List.map_congr_left fun j hj => ?_
  have hj := List.mem_range.mp hj
  show bt (bp n j * rpt (2 ^ n) M) p = _
  rw [bt_rpt (Nat.two_pow_pos n) (bp_lt h1 h3 hj) M p hp, bp_bit h1 h3 hj _ (Nat.mod_lt _ (Nat.two_pow_pos n))]
def wlM : EM := (un bsum (lcE (irng1 (var 2)) [7] (gnm 7) (tst (bin oand (bin oshr (var 7) (var 6)) (cst (.int 1)))) (bin oshl (cst (.int 1)) (var 7))))
theorem wl_sum {n j : Nat} (h1 : 1 ≤ n) (h3 : n ≤ 3) (hj : j < n) (A B C E F : D) (o7 : Option D) : wlM [some A, some B, some (nD (2 ^ n)), some C, some E, some F, some (nD j), o7] = .ok (nD (bp n j)) := by
  have : n = 1 ∨ n = 2 ∨ n = 3 := by omega
  rcases this with rfl | rfl | rfl
  · have : j = 0 := by omega
    subst this
    rfl
  · have : j = 0 ∨ j = 1 := by omega
    rcases this with rfl | rfl <;> rfl
  · have : j = 0 ∨ j = 1 ∨ j = 2 := by omega
    rcases this with rfl | rfl | rfl <;> rfl
theorem bp_le {n j : Nat} (h1 : 1 ≤ n) (h3 : n ≤ 3) (hj : j < n) : bp n j ≤ 1000 := by
  have := bp_lt h1 h3 hj
  have : 2 ^ 2 ^ n ≤ 2 ^ 8 := Nat.pow_le_pow_right (by decide) (by
    have := Nat.pow_le_pow_right (n := 2) (by decide) h3
    omega)
  omega
theorem nfdiv {a b : Nat} (h : 0 < b) (h2 : b ≤ 1000) : ofdiv (nD a) (nD b) = .ok (nD (a / b)) := by
  unfold nD
  rw [ofdiv_ii ⟨by omega, by omega⟩]
  simp
theorem wide_lanes_ok {n out : Nat} {xs : List Deed} {many : List (List Nat)} (h1 : 1 ≤ n) (h3 : n ≤ 3) (hr : Row n xs) (hz : n + xs.length ≤ 1000) (hM : many.length ≤ 64) (hf : ∀ ms ∈ many, Fit ms (tops xs)) (h5 : ∀ x ∈ xs, x.top ≤ 5) :
    ∃ ls hs, RunL n (2 ^ n * many.length) (msP (2 ^ n) many) (fun p => lb n (p % 2 ^ n)) xs xs.length ls hs ∧ m_wide_lanes [rowD n xs out, .lst (many.map rD)] = .ok (.tup [.lst (ls.map nD), .lst (hs.map Hd.d)]) := by
  have h8 : 2 ^ n ≤ 8 := Nat.pow_le_pow_right (n := 2) (by decide) h3
  have hp := Nat.two_pow_pos n
  have hw : 2 ^ n * many.length ≤ 512 := by
    have := Nat.mul_le_mul h8 hM
    omega
  obtain ⟨hds, d1, d2, d3⟩ := held_lanes_ok (n := n) (out := out) (l248 h1 h3) (by omega) (by omega) hf h5
  obtain ⟨ls, hs, I, e⟩ := run_lanes (out := out) hr hz (begL_lns (M := many.length) h1 h3 (Nat.le_refl n)) (by simp [begL]) (fun p hp => begL_plc h1 h3 hp) d1 d2
  refine ⟨ls, hs, I, ?_⟩
  have ri := row_inputs n xs out
  have s1 : oshl (.int 1) (nD n) = .ok (nD (2 ^ n)) := shl_nD (by omega)
  have s2 : oshl (.int 1) (nD (2 ^ n)) = .ok (nD (2 ^ 2 ^ n)) := shl_nD (by omega)
  have s3 : osub (nD (2 ^ 2 ^ n)) (.int 1) = .ok (nD (2 ^ 2 ^ n - 1)) := nsub (b := 1) (Nat.two_pow_pos _)
  have s4 : omul (nD (2 ^ n)) (nD many.length) = .ok (nD (2 ^ n * many.length)) := nmul (by omega)
  have s5 : oshl (.int 1) (nD (2 ^ n * many.length)) = .ok (nD (2 ^ (2 ^ n * many.length))) := shl_nD (by omega)
  have s6 : osub (nD (2 ^ (2 ^ n * many.length))) (.int 1) = .ok (nD (2 ^ (2 ^ n * many.length) - 1)) := nsub (b := 1) (Nat.two_pow_pos _)
  have hb : 2 ^ 2 ^ n ≤ 2 ^ 8 := Nat.pow_le_pow_right (by decide) h8
  have hb2 : 2 ^ 1 ≤ 2 ^ 2 ^ n := Nat.pow_le_pow_right (by decide) hp
  have s7 : ofdiv (nD (2 ^ (2 ^ n * many.length) - 1)) (nD (2 ^ 2 ^ n - 1)) = .ok (nD (rpt (2 ^ n) many.length)) := nfdiv (by omega) (by omega)
  have lp : ∃ o6, forL (forB (gnm 6) (app 5 (bin omul wlM (bin ofdiv (var 4) (var 3))))) ((List.range n).map fun i => .int ((i : Nat) : Int)) [some (rowD n xs out), some (.lst (many.map rD)), some (nD (2 ^ n)), some (nD (2 ^ 2 ^ n - 1)), some (nD (2 ^ (2 ^ n * many.length) - 1)), some (.lst []), none, none] = .ok (.next [some (rowD n xs out), some (.lst (many.map rD)), some (nD (2 ^ n)), some (nD (2 ^ 2 ^ n - 1)), some (nD (2 ^ (2 ^ n * many.length) - 1)), some (.lst ((begL n many.length n).map nD)), o6, none]) := by
    obtain ⟨e', lp, o6, rfl⟩ := forR_inv (b := forB (gnm 6) (app 5 (bin omul wlM (bin ofdiv (var 4) (var 3))))) (n := n) (e := [some (rowD n xs out), some (.lst (many.map rD)), some (nD (2 ^ n)), some (nD (2 ^ 2 ^ n - 1)), some (nD (2 ^ (2 ^ n * many.length) - 1)), some (.lst []), none, none])
      (fun k E => ∃ o6, E = [some (rowD n xs out), some (.lst (many.map rD)), some (nD (2 ^ n)), some (nD (2 ^ 2 ^ n - 1)), some (nD (2 ^ (2 ^ n * many.length) - 1)), some (.lst ((begL n many.length k).map nD)), o6, none])
      ⟨none, rfl⟩ (by
        rintro k E hk ⟨o6, rfl⟩
        refine ⟨_, ?_, some (nD k), rfl⟩
        have wl := wl_sum h1 h3 hk (rowD n xs out) (.lst (many.map rD)) (nD (2 ^ 2 ^ n - 1)) (nD (2 ^ (2 ^ n * many.length) - 1)) (.lst ((begL n many.length k).map nD)) none
        have mu : omul (nD (bp n k)) (nD (rpt (2 ^ n) many.length)) = .ok (nD (bp n k * rpt (2 ^ n) many.length)) := nmul (bp_le h1 h3 hk)
        have eb : (begL n many.length (k + 1)).map nD = (begL n many.length k).map nD ++ [nD (bp n k * rpt (2 ^ n) many.length)] := by
          unfold begL
          rw [List.range_succ, List.map_append, List.map_append]
          rfl
        have zz : ((begL n many.length k).map nD).length < SZ := by
          rw [List.length_map]
          unfold begL
          rw [List.length_map, List.length_range]
          exact Nat.lt_of_lt_of_le hk (Nat.le_trans h3 (by decide))
        rw [eb]
        change wlM [_, _, _, _, _, _, some (.int (k : Int)), _] = _ at wl
        show _ = Res.ok (Fl.next [_, _, _, _, _, _, some (.int (k : Int)), _])
        generalize nD (bp n k * rpt (2 ^ n) many.length) = Z1 at *
        generalize nD (rpt (2 ^ n) many.length) = Z2 at *
        generalize nD (bp n k) = Z3 at *
        generalize nD (2 ^ (2 ^ n * many.length) - 1) = Z4 at *
        generalize nD (2 ^ 2 ^ n - 1) = Z5 at *
        generalize nD (2 ^ n) = Z6 at *
        generalize (begL n many.length k).map nD = Z7 at *
        generalize many.map rD = Z8 at *
        generalize rowD n xs out = Z9 at *
        generalize (k : Int) = Z10 at *
        simp [var, wl, s7, mu, zz])
    exact ⟨o6, lp⟩
  obtain ⟨o6, lp⟩ := lp
  have hrg : irng1 (un (oattr ["Row"] "inputs") (var 0)) [some (rowD n xs out), some (.lst (many.map rD)), some (nD (2 ^ n)), some (nD (2 ^ 2 ^ n - 1)), some (nD (2 ^ (2 ^ n * many.length) - 1)), some (.lst []), none, none] = .ok ((List.range n).map fun i => .int ((i : Nat) : Int)) := irng1_nat (n := n) (by
    generalize rowD n xs out = Z9 at *
    simp [var, ri]
    rfl) (rng_lt (by omega))
  have ln := lenN many rD
  unfold m_wide_lanes
  rw [fn2]
  unfold b_wide_lanes
  refine (congrArg done ((asg_pass (d := nD (2 ^ n)) ?_).trans ((asg_pass (d := nD (2 ^ 2 ^ n - 1)) ?_).trans ((asg_pass (d := nD (2 ^ (2 ^ n * many.length) - 1)) ?_).trans ((asg_pass (d := .lst []) (by simp)).trans ((for_pass hrg lp).trans ?_)))))).trans (done_ret (.tup [.lst (ls.map nD), .lst (hs.map Hd.d)]))
  · generalize rowD n xs out = Z9 at *
    simp [var, ri, s1]
  · generalize rowD n xs out = Z9 at *
    generalize nD (2 ^ n) = Z6 at *
    generalize nD (2 ^ 2 ^ n - 1) = Z5 at *
    generalize nD (2 ^ 2 ^ n) = Z4 at *
    simp [var, s2, s3]
  · generalize rowD n xs out = Z9 at *
    generalize nD (2 ^ n) = Z6 at *
    generalize nD (2 ^ 2 ^ n - 1) = Z5 at *
    generalize nD (2 ^ (2 ^ n * many.length) - 1) = Z4 at *
    generalize nD (2 ^ (2 ^ n * many.length)) = Z3 at *
    generalize nD (2 ^ n * many.length) = Z2 at *
    generalize nD many.length = Z1 at *
    generalize many.map rD = Z8 at *
    simp [var, ln, s4, s5, s6]
  · generalize nD (2 ^ n) = Z6 at *
    generalize nD (2 ^ 2 ^ n - 1) = Z5 at *
    generalize nD (2 ^ (2 ^ n * many.length) - 1) = Z4 at *
    generalize (begL n many.length n).map nD = Z7 at *
    generalize many.map rD = Z8 at *
    generalize rowD n xs out = Z9 at *
    generalize hds.map Hd.d = Z1 at *
    generalize ls.map nD = Z2 at *
    generalize hs.map Hd.d = Z3 at *
    simp [var, d3, e]
end Py.U
namespace Py.U
open PySem
/-! ### marks read back from their lanes -/
def mid : Nat → List Nat
  | 2 => [1]
  | 3 => [1, 2]
  | _ => [1, 2, 3, 4]
theorem mid_rng {t : Nat} (ht : t = 2 ∨ t = 3 ∨ t = 5) {xs : List Nat} (hx : xs.length = t) (e : Env) : irng2 (cst (.int 1)) (un blen (var 0)) (some (.lst (xs.map nD)) :: e) = .ok ((mid t).map fun i => .int ((i : Nat) : Int)) := by
  have hl := lenN xs nD
  rw [hx] at hl
  have e2 : un blen (var 0) (some (.lst (xs.map nD)) :: e) = .ok (nD t) := by
    generalize xs.map nD = X at *
    simp [var, hl]
  unfold irng2
  rw [e2]
  rcases ht with rfl | rfl | rfl <;> rfl
theorem mid_sum {t m : Nat} (ht : t = 2 ∨ t = 3 ∨ t = 5) (hm : m < t) : ((mid t).map fun r => ((r * eqN m r : Nat) : Int)).sum = (m : Int) := by
  rcases ht with rfl | rfl | rfl
  · have : m = 0 ∨ m = 1 := by omega
    rcases this with rfl | rfl <;> rfl
  · have : m = 0 ∨ m = 1 ∨ m = 2 := by omega
    rcases this with rfl | rfl | rfl <;> rfl
  · have : m = 0 ∨ m = 1 ∨ m = 2 ∨ m = 3 ∨ m = 4 := by omega
    rcases this with rfl | rfl | rfl | rfl | rfl <;> rfl
theorem mid_lt {t r : Nat} (ht : t = 2 ∨ t = 3 ∨ t = 5) (h : r ∈ mid t) : r < t ∧ r ≤ 1000 := by
  rcases ht with rfl | rfl | rfl <;> simp [mid] at h <;> omega
theorem mid_len (t : Nat) : (mid t).length ≤ 1000 := by
  unfold mid
  split <;> decide
theorem mark_column_ok {W : Nat} {x : Deed} {m : Nat → Nat} {h : Hd} (hok : h.ok W x m) (hW : W ≤ 1000) (ht : x.top = 2 ∨ x.top = 3 ∨ x.top = 5) : m_mark_column [h.d, nD W] = .ok (.lst ((List.range W).map fun p => nD (m p))) := by
  have hr : ∀ (X : D), irng1 (var 1) [some X, some (nD W), none, none] = .ok ((List.range W).map fun i => .int ((i : Nat) : Int)) := fun X => irng1_nat (n := W) (by simp [var]; rfl) (rng_lt hW)
  have hz : (List.range W).length ≤ SZ := by rw [List.length_range]; exact le_sz hW
  unfold m_mark_column
  rw [fn2]
  unfold b_mark_column
  cases h with
  | one v =>
    obtain ⟨_, _, k3⟩ := hok
    have ti : oisi CS [.int] (nD v) = .ok (.bl true) := rfl
    have lc : lcE (irng1 (var 1)) [2] (gnm 2) yes (bin oand (bin oshr (var 0) (var 2)) (cst (.int 1))) [some (nD v), some (nD W), none, none] = .ok (.lst ((List.range W).map fun p => nD (m p))) :=
      lc_mapI (k := fun i => .int ((i : Nat) : Int)) (hr _) hz fun p hp => by
        have b1 := bitN1 v p
        have b2 := bitN2 (v / 2 ^ p)
        have e := (k3 p (List.mem_range.mp hp)).2
        change v / 2 ^ p % 2 = m p at e
        rw [e] at b2
        change oshr _ (.int (p : Int)) = _ at b1
        generalize (p : Int) = z at *
        generalize nD (v / 2 ^ p) = V1 at *
        generalize nD v = V at *
        exact ⟨_, rfl, by simp only [wipe]; simp [var, b1, b2]⟩
    show done (seq (Py.ite _ (ret (lcE _ _ _ _ _)) skip) _ [some (nD v), some (nD W), none, none]) = _
    generalize (List.range W).map (fun p => nD (m p)) = Z at *
    generalize nD v = V at *
    generalize nD W = WW at *
    simp [var, ti, lc]
  | many xs =>
    obtain ⟨_, k1, k2, k3⟩ := hok
    have ti : oisi CS [.int] (.lst (xs.map nD)) = .ok (.bl false) := rfl
    have lc : lcE (irng1 (var 1)) [2] (gnm 2) yes (un bsum (lcE (irng2 (cst (.int 1)) (un blen (var 0))) [3] (gnm 3) yes (bin omul (var 3) (bin oand (bin oshr (bin oidx (var 0) (var 3)) (var 2)) (cst (.int 1)))))) [some (.lst (xs.map nD)), some (nD W), none, none] = .ok (.lst ((List.range W).map fun p => nD (m p))) :=
      lc_mapI (k := fun i => .int ((i : Nat) : Int)) (hr _) hz fun p hp => by
        obtain ⟨hm, k4⟩ := k3 p (List.mem_range.mp hp)
        refine ⟨[some (.lst (xs.map nD)), some (nD W), some (nD p), none], rfl, ?_⟩
        have lc2 : lcE (irng2 (cst (.int 1)) (un blen (var 0))) [3] (gnm 3) yes (bin omul (var 3) (bin oand (bin oshr (bin oidx (var 0) (var 3)) (var 2)) (cst (.int 1)))) [some (.lst (xs.map nD)), some (nD W), some (nD p), none] = .ok (.lst ((mid x.top).map fun r => .int ((r * eqN (m p) r : Nat) : Int))) :=
          lc_mapI (k := fun i => .int ((i : Nat) : Int)) (mid_rng ht k1 _) (le_sz (mid_len _)) fun r hr => by
            obtain ⟨hr1, hr2⟩ := mid_lt ht hr
            have ix := lst_at0 (xs := xs) (r := r) (by omega)
            have b1 := bitN1 (at0 xs r) p
            have b2 := bitN2 (at0 xs r / 2 ^ p)
            have b3 : omul (nD r) (nD (eqN (m p) r)) = .ok (.int ((r * eqN (m p) r : Nat) : Int)) := nmul hr2
            have e := k4 r hr1
            change at0 xs r / 2 ^ p % 2 = _ at e
            rw [e] at b2
            generalize D.int ((r * eqN (m p) r : Nat) : Int) = Z at *
            generalize nD (eqN (m p) r) = Z2 at *
            generalize nD (at0 xs r / 2 ^ p) = Z3 at *
            generalize nD (at0 xs r) = Z4 at *
            generalize nD p = P at *
            change oidx _ (.int (r : Int)) = _ at ix
            change omul (.int (r : Int)) _ = _ at b3
            generalize (r : Int) = R at *
            generalize xs.map nD = XS at *
            generalize nD W = WW at *
            exact ⟨_, rfl, by simp only [wipe]; simp [var, ix, b1, b2, b3]⟩
        have sm := sum_map (fun r => ((r * eqN (m p) r : Nat) : Int)) (mid x.top)
        rw [mid_sum ht hm] at sm
        rw [un_eq, lc2, bind_ok]
        exact sm
    show done (seq (Py.ite _ (ret (lcE _ _ _ _ _)) skip) _ [some (.lst (xs.map nD)), some (nD W), none, none]) = _
    generalize (List.range W).map (fun p => nD (m p)) = Z at *
    generalize D.lst (xs.map nD) = V at *
    generalize nD W = WW at *
    simp [var, ti, lc]
/-! ### all marks after a letter, place by place -/
theorem seqs_l : ∀ xss : List (List D), seqsOf (xss.map .lst) = some xss
  | [] => rfl
  | xs :: r => by
    show (match seqOf (.lst xs), seqsOf (r.map .lst) with | some (_, xs), some xss => some (xs :: xss) | _, _ => none) = _
    rw [seqs_l r]
    rfl
theorem lzip_eq {a : EM} {e : Env} {xss : List (List D)} {w : Nat} (ha : a e = .ok (.lst (xss.map .lst))) (h1 : 1 ≤ xss.length) (hz : xss.length ≤ 1000) (hw : w ≤ 1000) (hl : ∀ xs ∈ xss, xs.length = w) : lzipE a e = .ok (.lst ((List.range w).map fun i => .tup (xss.map fun xs => xs.getD i .non))) := by
  have hd : (xss.headD []).length = w := by
    cases xss with
    | nil => simp at h1
    | cons x r => exact hl x (List.mem_cons_self ..)
  unfold lzipE
  rw [ha, bind_ok]
  show (match seqsOf (xss.map .lst) with | some xss => _ | none => _) = _
  rw [seqs_l]
  show (if _ then _ else _) = _
  rw [if_pos ⟨h1, hz, by rw [hd]; omega, fun xs h => by rw [hd, hl xs h]⟩]
  unfold zipAll
  rw [hd]
end Py.U
namespace Py.U
open PySem
/-! ### one row's deeds over the lanes of many marks -/
theorem top235 {n : Nat} {xs : List Deed} (hr : Row n xs) : ∀ x ∈ xs, x.top = 2 ∨ x.top = 3 ∨ x.top = 5 := fun x hx => by
  obtain ⟨k, hk, e⟩ := List.getElem_of_mem hx
  have := hr k hk
  rw [e] at this
  cases x with
  | count p r ps => exact this.1
  | _ => exact .inl rfl
/-- the marks after the letter of a place -/
def nxP (n : Nat) (xs : List Deed) (many : List (List Nat)) (p : Nat) : List Nat := (runD (msP (2 ^ n) many p) (lb n (p % 2 ^ n)) xs).2
theorem many_lanes_ok {n out : Nat} {xs : List Deed} {many : List (List Nat)} (h1 : 1 ≤ n) (h3 : n ≤ 3) (hr : Row n xs) (hz : n + xs.length ≤ 1000) (hM : many.length ≤ 64) (hf : ∀ ms ∈ many, Fit ms (tops xs)) (h5 : ∀ x ∈ xs, x.top ≤ 5) :
    ∃ ls : List Nat, Lns (2 ^ n * many.length) ls ∧ ls.length = n + xs.length ∧ (∀ p, p < 2 ^ n * many.length → ∀ a, bt (at0 ls a) p = at0 (runD (msP (2 ^ n) many p) (lb n (p % 2 ^ n)) xs).1 a) ∧ m_many_lanes [rowD n xs out, .lst (many.map rD)] = .ok (.tup [.lst (ls.map nD), .lst ((List.range (2 ^ n * many.length)).map fun p => rD (nxP n xs many p))]) := by
  have h8 : 2 ^ n ≤ 8 := Nat.pow_le_pow_right (n := 2) (by decide) h3
  have hp := Nat.two_pow_pos n
  have hw : 2 ^ n * many.length ≤ 512 := by
    have := Nat.mul_le_mul h8 hM
    omega
  obtain ⟨ls, hs, I, e⟩ := wide_lanes_ok (out := out) h1 h3 hr hz hM hf h5
  have It : xs.take xs.length = xs := List.take_length
  have sl : ∀ p, p < 2 ^ n * many.length → (nxP n xs many p).length = hs.length := fun p hp => by
    have := I.sl p hp
    rw [It] at this
    exact this
  refine ⟨ls, I.ln, I.len, fun p hp a => ?_, ?_⟩
  · have := I.at_ p hp
    rw [It] at this
    rw [← at0_plc, this]
    rfl
  have hlen : hs.length ≤ 1000 := by
    have := I.hl
    rw [It] at this
    rw [this]
    unfold tops
    rw [List.length_map]
    exact Nat.le_trans (List.length_filter_le _ _) (by omega)
  have hl2 : hs.length = (xs.filter Deed.marked).length := by
    have := I.hl
    rw [It] at this
    rw [this]
    unfold tops
    rw [List.length_map]
  have ri := row_inputs n xs out
  have s1 : oshl (.int 1) (nD n) = .ok (nD (2 ^ n)) := shl_nD (by omega)
  have s4 : omul (nD (2 ^ n)) (nD many.length) = .ok (nD (2 ^ n * many.length)) := nmul (by omega)
  have ln := lenN many rD
  generalize hW : 2 ^ n * many.length = W at *
  have w4 : bin omul (bin oshl (cst (.int 1)) (un (oattr ["Row"] "inputs") (var 0))) (un blen (var 1)) [some (rowD n xs out), some (.lst (many.map rD)), some (.lst (ls.map nD)), some (.lst (hs.map Hd.d)), none, none, none] = .ok (nD W) := by
    generalize rowD n xs out = R at *
    generalize many.map rD = MM at *
    generalize nD many.length = Z at *
    generalize nD (2 ^ n) = Z2 at *
    simp [var, ri, s1, ln, s4]
  unfold m_many_lanes
  rw [fn2]
  unfold b_many_lanes
  have g : lift (gtup [(gnm 2), (gnm 3)] (.tup [.lst (ls.map nD), .lst (hs.map Hd.d)]) [some (rowD n xs out), some (.lst (many.map rD)), none, none, none, none, none]) = .ok [some (rowD n xs out), some (.lst (many.map rD)), some (.lst (ls.map nD)), some (.lst (hs.map Hd.d)), none, none, none] := rfl
  have a1 : asg (gtup [(gnm 2), (gnm 3)]) (call m_wide_lanes (argC (var 0) (argC (var 1) argN))) [some (rowD n xs out), some (.lst (many.map rD)), none, none, none, none, none] = .ok (.next [some (rowD n xs out), some (.lst (many.map rD)), some (.lst (ls.map nD)), some (.lst (hs.map Hd.d)), none, none, none]) := by
    generalize rowD n xs out = R at *
    generalize many.map rD = MM at *
    generalize ls.map nD = Z at *
    generalize hs.map Hd.d = Z2 at *
    simp [var, e, g]
  refine congrArg done ((seq_next a1).trans (asg_pass w4)) |>.trans ?_
  show done (seq (Py.ite _ _ skip) _ [some (rowD n xs out), some (.lst (many.map rD)), some (.lst (ls.map nD)), some (.lst (hs.map Hd.d)), some (nD W), none, none]) = _
  cases hs with
  | nil =>
    have ev : (List.range W).map (fun p => rD (nxP n xs many p)) = (List.replicate W [D.tup []]).flatten := by
      have : ∀ p ∈ List.range W, rD (nxP n xs many p) = D.tup [] := fun p hp => by
        have := sl p (List.mem_range.mp hp)
        rw [List.eq_nil_of_length_eq_zero this]
        rfl
      rw [List.map_congr_left this]
      apply List.ext_getElem
      · simp
      · intro i a b
        simp
    have rp : olrep (.lst [.tup []]) (nD W) = .ok (.lst (List.replicate W [D.tup []]).flatten) := by
      show (if _ then _ else _) = _
      rw [if_pos ⟨by decide, by omega⟩]
      simp
    rw [ev]
    generalize (List.replicate W [D.tup []]).flatten = Z3 at *
    generalize rowD n xs out = R at *
    generalize many.map rD = MM at *
    generalize ls.map nD = Z at *
    generalize nD W = WW at *
    have t0 : truthy (.lst (List.map Hd.d [])) = .ok false := rfl
    generalize List.map Hd.d [] = HS at *
    simp [var, t0, rp]
  | cons h0 hr0 =>
    generalize hhs : h0 :: hr0 = hs at *
    have h1' : 1 ≤ hs.length := by
      rw [← hhs]
      simp
    have tr : truthy (.lst (hs.map Hd.d)) = .ok true := by
      rw [← hhs]
      rfl
    have hr' : hs.map Hd.d = (List.range hs.length).map fun j => (match hs[j]? with | some h => h.d | none => D.non) := by
      apply List.ext_getElem
      · simp
      · intro i a b
        have : i < hs.length := by simpa using a
        simp [this]
    have lc : lcE (iseq (var 3)) [6] (gnm 6) yes (call m_mark_column (argC (var 6) (argC (var 4) argN))) [some (rowD n xs out), some (.lst (many.map rD)), some (.lst (ls.map nD)), some (.lst (hs.map Hd.d)), some (nD W), none, none] = .ok (.lst ((List.range hs.length).map fun j => .lst ((List.range W).map fun p => nD ((nxP n xs many p).getD j 0)))) := by
      refine lc_mapI (k := fun j => (match hs[j]? with | some h => h.d | none => D.non)) (by rw [← hr']; rfl) (by rw [List.length_range]; exact le_sz hlen) fun j hj => ?_
      have hj := List.mem_range.mp hj
      have hj2 : j < (xs.filter Deed.marked).length := by omega
      have ok := I.ok j hs[j] (xs.filter Deed.marked)[j] (List.getElem?_eq_getElem hj) (List.getElem?_eq_getElem hj2)
      rw [It] at ok
      have mc := mark_column_ok ok (by omega) (top235 hr _ (List.mem_filter.mp (List.getElem_mem hj2)).1)
      rw [List.getElem?_eq_getElem hj]
      change m_mark_column [hs[j].d, nD W] = .ok (.lst ((List.range W).map fun p => nD ((nxP n xs many p).getD j 0))) at mc
      generalize D.lst ((List.range W).map fun p => nD ((nxP n xs many p).getD j 0)) = Z at *
      show ∃ e1, gnm 6 hs[j].d _ = some e1 ∧ _
      generalize hs[j].d = HJ at *
      generalize hs.map Hd.d = HS at *
      generalize rowD n xs out = R at *
      generalize many.map rD = MM at *
      generalize ls.map nD = LL at *
      generalize nD W = WW at *
      exact ⟨_, rfl, by simp only [wipe]; simp [var, mc]⟩
    have lz : lzipE (var 5) [some (rowD n xs out), some (.lst (many.map rD)), some (.lst (ls.map nD)), some (.lst (hs.map Hd.d)), some (nD W), some (.lst ((List.range hs.length).map fun j => .lst ((List.range W).map fun p => nD ((nxP n xs many p).getD j 0)))), none] = .ok (.lst ((List.range W).map fun p => rD (nxP n xs many p))) := by
      refine (lzip_eq (w := W) (xss := (List.range hs.length).map fun j => (List.range W).map fun p => nD ((nxP n xs many p).getD j 0)) ?_ ?_ ?_ (by omega) ?_).trans ?_
      · show Res.ok _ = _
        rw [List.map_map]
        rfl
      · simpa using h1'
      · simpa using hlen
      · intro xs hx
        obtain ⟨j, _, rfl⟩ := List.mem_map.mp hx
        simp
      · congr 2
        refine List.map_congr_left fun p hp => ?_
        have hp := List.mem_range.mp hp
        unfold rD
        congr 1
        rw [List.map_map, ← range_getD (sl p hp), List.map_map]
        refine List.map_congr_left fun j hj => ?_
        have hj := List.mem_range.mp hj
        show ((List.range W).map _).getD p D.non = _
        rw [List.getD_eq_getElem?_getD, List.getElem?_map, List.getElem?_range hp]
        rfl
    refine (congrArg done ((chk_pass ?_).trans (asg_pass lc))).trans ?_
    · generalize hs.map Hd.d = HS at *
      show (tst (var 3) _ >>= _) = _
      simp [var, tr]
    · show done (ret (tupE (argC (var 2) (argC (lzipE (var 5)) argN))) [some (rowD n xs out), some (.lst (many.map rD)), some (.lst (ls.map nD)), some (.lst (hs.map Hd.d)), some (nD W), some (.lst ((List.range hs.length).map fun j => .lst ((List.range W).map fun p => nD ((nxP n xs many p).getD j 0)))), none]) = _
      generalize D.lst ((List.range hs.length).map fun j => .lst ((List.range W).map fun p => nD ((nxP n xs many p).getD j 0))) = Z3 at *
      generalize (List.range W).map (fun p => rD (nxP n xs many p)) = Z4 at *
      generalize hs.map Hd.d = HS at *
      generalize rowD n xs out = R at *
      generalize many.map rD = MM at *
      generalize ls.map nD = LL at *
      generalize nD W = WW at *
      rw [ret_eq, tupE_eq, argC_eq, argC_eq, argN_eq, lz]
      simp [var]
end Py.U
/-! Readings for which only 0 is written: how many, the first one; forwards and backwards. No program in sight. -/
namespace Py.U
section
variable {α : Type} [DecidableEq α]
/-- the letters at which 0 is written, and where they lead -/
def ldZ (L : Nat) (nx : α → Nat → α) (ot : α → Nat → Nat) (p : α) : List (Nat × α) := ((List.range L).filter fun l => ot p l == 0).map fun l => (l, nx p l)
def Zc (ld : α → List (Nat × α)) : Nat → α → Nat
  | 0, _ => 1
  | w + 1, p => ((ld p).map fun x => Zc ld w x.2).sum
def alv (ld : α → List (Nat × α)) : Nat → α → Bool
  | 0, _ => true
  | w + 1, p => (ld p).any fun x => alv ld w x.2
def frZ (ld : α → List (Nat × α)) : Nat → α → List Nat
  | 0, _ => []
  | w + 1, p => match (ld p).filter fun x => alv ld w x.2 with
    | x :: _ => x.1 :: frZ ld w x.2
    | [] => []
/-- a line of a table -/
def lnZ (ld : α → List (Nat × α)) (F : List α) (p : α) : List (Nat × Nat) := (ld p).map fun x => (x.1, F.idxOf x.2)
structure TabZ (ld : α → List (Nat × α)) (F : List α) (p0 : α) : Prop where
  cl : ∀ p ∈ F, ∀ x ∈ ld p, x.2 ∈ F
  st : ∃ r, F = p0 :: r
theorem idx_get {F : List α} {q : α} (h : q ∈ F) {β : Type} (f : α → β) (d : β) : (F.map f).getD (F.idxOf q) d = f q := by
  have hl : F.idxOf q < F.length := List.idxOf_lt_length_of_mem h
  rw [List.getD_eq_getElem?_getD, List.getElem?_map, List.getElem?_eq_getElem hl]
  simp [List.getElem_idxOf hl]
variable {ld : α → List (Nat × α)} {F : List α} {p0 : α}
theorem zc_line (T : TabZ ld F p0) (w : Nat) {p : α} (hp : p ∈ F) : ((lnZ ld F p).map fun g => (F.map (Zc ld w)).getD g.2 0).sum = Zc ld (w + 1) p := by
  unfold lnZ
  rw [List.map_map, Zc]
  congr 1
  refine List.map_congr_left fun x hx => ?_
  exact idx_get (T.cl p hp x hx) _ _
theorem alv_line (T : TabZ ld F p0) (w : Nat) {p : α} (hp : p ∈ F) : ((lnZ ld F p).any fun g => (F.map (alv ld w)).getD g.2 false) = alv ld (w + 1) p := by
  unfold lnZ
  rw [List.any_map, alv, Bool.eq_iff_iff, List.any_eq_true, List.any_eq_true]
  constructor
  · rintro ⟨x, hx, q⟩
    refine ⟨x, hx, ?_⟩
    rwa [Function.comp, idx_get (T.cl p hp x hx)] at q
  · rintro ⟨x, hx, q⟩
    refine ⟨x, hx, ?_⟩
    rwa [Function.comp, idx_get (T.cl p hp x hx)]
/-- the lines that go on -/
theorem fil_line (T : TabZ ld F p0) (w : Nat) {p : α} (hp : p ∈ F) : (lnZ ld F p).filter (fun g => (F.map (alv ld w)).getD g.2 false) = ((ld p).filter fun x => alv ld w x.2).map fun x => (x.1, F.idxOf x.2) := by
  unfold lnZ
  rw [List.filter_map]
  congr 1
  refine List.filter_congr fun x hx => ?_
  rw [Function.comp, idx_get (T.cl p hp x hx)]
end
/-! ### forwards -/
def dotN : List Nat → List Nat → Nat
  | a :: as, b :: bs => a * b + dotN as bs
  | _, _ => 0
theorem dot_set : ∀ (t z : List Nat) (g v : Nat), g < t.length → t.length = z.length → dotN (t.set g (t.getD g 0 + v)) z = dotN t z + v * z.getD g 0
  | [], _, _, _, h, _ => by simp at h
  | _ :: _, [], _, _, _, h => by simp at h
  | a :: t, b :: z, 0, v, _, _ => by
    simp only [List.set_cons_zero, List.getD_cons_zero, dotN]
    rw [Nat.add_mul]
    omega
  | a :: t, b :: z, g + 1, v, h, h2 => by
    simp only [List.set_cons_succ, List.getD_cons_succ, dotN]
    rw [dot_set t z g v (by simpa using h) (by simpa using h2)]
    omega
theorem dot_zero : ∀ (n : Nat) (z : List Nat), dotN (List.replicate n 0) z = 0
  | 0, z => by cases z <;> rfl
  | n + 1, [] => rfl
  | n + 1, b :: z => by
    rw [List.replicate_succ, dotN, dot_zero n z]
    omega
/-- a number is brought to all goals of a line -/
def addL (v : Nat) (t : List Nat) (ln : List (Nat × Nat)) : List Nat := ln.foldl (fun t g => t.set g.2 (t.getD g.2 0 + v)) t
theorem addL_len (v : Nat) : ∀ (ln : List (Nat × Nat)) (t : List Nat), (addL v t ln).length = t.length
  | [], t => rfl
  | g :: ln, t => by
    unfold addL
    rw [List.foldl_cons]
    exact (addL_len v ln _).trans List.length_set
theorem addL_dot (v : Nat) : ∀ (ln : List (Nat × Nat)) (t z : List Nat), (∀ g ∈ ln, g.2 < t.length) → t.length = z.length → dotN (addL v t ln) z = dotN t z + v * (ln.map fun g => z.getD g.2 0).sum
  | [], t, z, _, _ => by simp [addL]
  | g :: ln, t, z, h, hl => by
    unfold addL
    rw [List.foldl_cons]
    have := addL_dot v ln (t.set g.2 (t.getD g.2 0 + v)) z (fun x hx => by rw [List.length_set]; exact h x (List.mem_cons_of_mem _ hx)) (by rw [List.length_set]; exact hl)
    unfold addL at this
    rw [this, dot_set t z g.2 v (h g List.mem_cons_self) hl, List.map_cons, List.sum_cons, Nat.mul_add]
    omega
/-- one place on: the first k lines -/
def fwd (T : List (List (Nat × Nat))) (now : List Nat) : Nat → List Nat
  | 0 => List.replicate T.length 0
  | k + 1 => addL (now.getD k 0) (fwd T now k) (T.getD k [])
theorem fwd_len (T : List (List (Nat × Nat))) (now : List Nat) : ∀ k, (fwd T now k).length = T.length
  | 0 => by simp [fwd]
  | k + 1 => by rw [fwd, addL_len, fwd_len T now k]
theorem dot_take : ∀ (now z : List Nat) (k : Nat), k < now.length → k < z.length → dotN (now.take (k + 1)) (z.take (k + 1)) = dotN (now.take k) (z.take k) + now.getD k 0 * z.getD k 0
  | a :: now, b :: z, 0, _, _ => by simp [dotN]
  | a :: now, b :: z, k + 1, h, h2 => by
    simp only [List.take_succ_cons, dotN, List.getD_cons_succ]
    rw [dot_take now z k (by simpa using h) (by simpa using h2)]
    omega
  | [], _, _, h, _ => by simp at h
  | _ :: _, [], _, _, h => by simp at h
theorem fwd_dot {T : List (List (Nat × Nat))} {now z z' : List Nat} (hn : now.length = T.length) (hz : z.length = T.length) (hz' : z'.length = T.length) (hg : ∀ ln ∈ T, ∀ g ∈ ln, g.2 < T.length)
    (hs : ∀ k, k < T.length → ((T.getD k []).map fun g => z.getD g.2 0).sum = z'.getD k 0) : ∀ k, k ≤ T.length → dotN (fwd T now k) z = dotN (now.take k) (z'.take k)
  | 0, _ => by
    rw [fwd, dot_zero]
    rfl
  | k + 1, h => by
    have hk : k < T.length := h
    have hm : T.getD k [] ∈ T := by
      rw [List.getD_eq_getElem?_getD, List.getElem?_eq_getElem hk]
      exact List.getElem_mem hk
    rw [fwd, addL_dot _ _ _ _ (fun g q => by rw [fwd_len]; exact hg _ hm g q) (by rw [fwd_len, hz]), fwd_dot hn hz hz' hg hs k (by omega), hs k hk, dot_take now z' k (by omega) (by omega)]
def fwdN (T : List (List (Nat × Nat))) : Nat → List Nat
  | 0 => (List.replicate T.length 0).set 0 1
  | t + 1 => fwd T (fwdN T t) T.length
theorem fwdN_len (T : List (List (Nat × Nat))) : ∀ t, (fwdN T t).length = T.length
  | 0 => by simp [fwdN]
  | t + 1 => by rw [fwdN, fwd_len]
theorem dot_one : ∀ now : List Nat, dotN now (List.replicate now.length 1) = now.sum
  | [] => rfl
  | a :: now => by
    rw [List.length_cons, List.replicate_succ, dotN, dot_one now, List.sum_cons, Nat.mul_one]
section
variable {α : Type} [DecidableEq α] {ld : α → List (Nat × α)} {F : List α} {p0 : α}
theorem fwd_all (T : TabZ ld F p0) : ∀ (t w : Nat), dotN (fwdN (F.map (lnZ ld F)) t) (F.map (Zc ld w)) = Zc ld (w + t) p0
  | 0, w => by
    obtain ⟨r, hr⟩ := T.st
    rw [fwdN, hr, List.map_cons, List.map_cons, List.length_cons, List.replicate_succ, List.set_cons_zero, dotN, dot_zero]
    simp
  | t + 1, w => by
    rw [fwdN, List.length_map, fwd_dot (z' := F.map (Zc ld (w + 1))) (fwdN_len _ _) (by simp) (by simp) ?_ ?_ F.length (by simp)]
    · rw [List.take_of_length_le (by rw [fwdN_len, List.length_map]; exact Nat.le_refl _), List.take_of_length_le (by simp), fwd_all T t (w + 1)]
      congr 1
      omega
    · intro ln hl g hg
      obtain ⟨p, hp, rfl⟩ := List.mem_map.mp hl
      obtain ⟨x, hx, rfl⟩ := List.mem_map.mp hg
      rw [List.length_map]
      exact List.idxOf_lt_length_of_mem (T.cl p hp x hx)
    · intro k hk
      rw [List.length_map] at hk
      have e1 : (F.map (lnZ ld F)).getD k [] = lnZ ld F F[k] := by
        rw [List.getD_eq_getElem?_getD, List.getElem?_map, List.getElem?_eq_getElem hk]
        rfl
      have e2 : (F.map (Zc ld (w + 1))).getD k 0 = Zc ld (w + 1) F[k] := by
        rw [List.getD_eq_getElem?_getD, List.getElem?_map, List.getElem?_eq_getElem hk]
        rfl
      rw [e1, e2, zc_line T w (List.getElem_mem hk)]
/-- forwards and backwards tell the same -/
theorem fwd_sum (T : TabZ ld F p0) (w : Nat) : (fwdN (F.map (lnZ ld F)) w).sum = Zc ld w p0 := by
  have h := fwd_all T w 0
  have e : F.map (Zc ld 0) = List.replicate (fwdN (F.map (lnZ ld F)) w).length 1 := by
    rw [fwdN_len, List.length_map]
    exact List.map_eq_replicate_iff.mpr fun x hx => rfl
  rw [e, dot_one, Nat.zero_add] at h
  exact h
end
/-! ### word by word -/
section
variable {α : Type} (L : Nat) (nx : α → Nat → α) (ot : α → Nat → Nat)
/-- the walk along a word's letters, from the lowest on -/
def stZ (word : Nat) : Nat → α → α
  | 0, p => p
  | w + 1, p => nx (stZ word w p) (word / L ^ w % L)
def okZ (word : Nat) (p : α) : Nat → Bool
  | 0 => true
  | w + 1 => okZ word p w && (ot (stZ L nx word w p) (word / L ^ w % L) == 0)
variable {L nx ot}
theorem stZ_front (word : Nat) (p : α) : ∀ w, stZ L nx word (w + 1) p = stZ L nx (word / L) w (nx p (word % L))
  | 0 => by simp [stZ]
  | w + 1 => by
    rw [stZ, stZ_front word p w, stZ]
    congr 1
    rw [Nat.div_div_eq_div_mul, Nat.pow_succ, Nat.mul_comm]
theorem okZ_front (word : Nat) (p : α) : ∀ w, okZ L nx ot word p (w + 1) = ((ot p (word % L) == 0) && okZ L nx ot (word / L) (nx p (word % L)) w)
  | 0 => by simp [okZ, stZ]
  | w + 1 => by
    rw [okZ, okZ_front word p w, okZ, Bool.and_assoc]
    congr 2
    rw [stZ_front, Nat.div_div_eq_div_mul, Nat.pow_succ, Nat.mul_comm (L ^ w)]
theorem sum_split (f : Nat → Nat) (L : Nat) : ∀ M, ((List.range (L * M)).map f).sum = ((List.range M).map fun m => ((List.range L).map fun l => f (L * m + l)).sum).sum
  | 0 => by simp
  | M + 1 => by
    rw [Nat.mul_succ, List.range_add, List.map_append, List.sum_append, sum_split f L M, List.range_succ, List.map_append, List.sum_append, List.map_map]
    simp [Function.comp_def]
theorem sum_swap (f : Nat → Nat → Nat) : ∀ (as bs : List Nat), (as.map fun a => (bs.map fun b => f a b).sum).sum = (bs.map fun b => (as.map fun a => f a b).sum).sum
  | [], bs => by
    simp only [List.map_nil, List.sum_nil]
    induction bs with
    | nil => rfl
    | cons b bs ih => simp [← ih]
  | a :: as, bs => by
    rw [List.map_cons, List.sum_cons, sum_swap f as bs]
    have : ∀ cs : List Nat, (cs.map fun b => f a b).sum + (cs.map fun b => (as.map fun a => f a b).sum).sum = (cs.map fun b => ((a :: as).map fun a => f a b).sum).sum := by
      intro cs
      induction cs with
      | nil => rfl
      | cons c cs ih =>
        simp only [List.map_cons, List.sum_cons] at ih ⊢
        omega
    exact this bs
theorem word_sum [DecidableEq α] (hL : 0 < L) : ∀ (w : Nat) (p : α), ((List.range (L ^ w)).map fun word => if okZ L nx ot word p w then 1 else 0).sum = Zc (ldZ L nx ot) w p
  | 0, p => by simp [okZ, Zc]
  | w + 1, p => by
    rw [Nat.pow_succ, Nat.mul_comm, sum_split, sum_swap, Zc]
    have key : ∀ l, l < L → ((List.range (L ^ w)).map fun m => if okZ L nx ot (L * m + l) p (w + 1) then 1 else 0).sum = if ot p l == 0 then Zc (ldZ L nx ot) w (nx p l) else 0 := by
      intro l hl
      have e : ∀ m, okZ L nx ot (L * m + l) p (w + 1) = ((ot p l == 0) && okZ L nx ot m (nx p l) w) := fun m => by
        rw [okZ_front, Nat.mul_add_mod, Nat.mod_eq_of_lt hl, Nat.mul_add_div hL, Nat.div_eq_of_lt hl, Nat.add_zero]
      simp only [e]
      by_cases h : (ot p l == 0) = true
      · rw [if_pos h]
        simp only [h, Bool.true_and]
        exact word_sum hL w (nx p l)
      · rw [if_neg h]
        simp only [Bool.not_eq_true] at h
        simp only [h, Bool.false_and]
        generalize List.range (L ^ w) = ms
        induction ms with
        | nil => rfl
        | cons m ms ih => simpa using ih
    rw [List.map_congr_left fun l hl => key l (List.mem_range.mp hl)]
    generalize Zc (ldZ L nx ot) w = Zw
    unfold ldZ
    rw [List.map_map]
    generalize List.range L = ls
    induction ls with
    | nil => rfl
    | cons l ls ih =>
      rw [List.map_cons, List.sum_cons, ih, List.filter_cons]
      by_cases h : (ot p l == 0) = true
      · rw [if_pos h, if_pos h, List.map_cons, List.sum_cons]
        rfl
      · rw [if_neg h, if_neg h, Nat.zero_add]
end
end Py.U
namespace Py.U
open PySem
/-! ### all marks that fit -/
def allM : List Nat → List (List Nat)
  | [] => [[]]
  | t :: ts => (List.range t).flatMap fun m => (allM ts).map (m :: ·)
theorem allM_mem : ∀ {ms ts : List Nat}, Fit ms ts → ms ∈ allM ts
  | [], [], _ => List.mem_singleton.mpr rfl
  | m :: ms, t :: ts, h => List.mem_flatMap.mpr ⟨m, List.mem_range.mpr h.1, List.mem_map.mpr ⟨ms, allM_mem h.2, rfl⟩⟩
  | [], _ :: _, h => h.elim
  | _ :: _, [], h => h.elim
theorem flat_const {α β : Type} {f : α → List β} {c : Nat} : ∀ (xs : List α), (∀ x ∈ xs, (f x).length = c) → (xs.flatMap f).length = xs.length * c
  | [], _ => by simp
  | x :: r, h => by
    rw [List.flatMap_cons, List.length_append, h x List.mem_cons_self, flat_const r fun y hy => h y (List.mem_cons_of_mem _ hy), List.length_cons, Nat.succ_mul, Nat.add_comm]
def prd (ts : List Nat) : Nat := ts.foldr (· * ·) 1
theorem allM_len : ∀ ts : List Nat, (allM ts).length = prd ts
  | [] => rfl
  | t :: ts => by
    show ((List.range t).flatMap fun m => (allM ts).map (m :: ·)).length = t * prd ts
    rw [flat_const (c := prd ts) _ fun m _ => by rw [List.length_map, allM_len ts], List.length_range]
def zer (xs : List Deed) : List Nat := List.replicate (tops xs).length 0
theorem zer_fit {n : Nat} {xs : List Deed} (hr : Row n xs) : Fit (zer xs) (tops xs) := by
  have h := tops_le hr
  unfold zer
  generalize tops xs = ts at *
  induction ts with
  | nil => trivial
  | cons t ts ih => exact ⟨(h t List.mem_cons_self).1, ih fun x hx => h x (List.mem_cons_of_mem _ hx)⟩
section
variable {n out : Nat} {xs : List Deed}
theorem first_marks_ok (hz : xs.length ≤ 1000) : m_first_marks [rowD n xs out] = .ok (rD (zer xs)) := by
  have hd := mark_deeds_ok (n := n) (out := out) hz
  have hl : (xs.filter Deed.marked).length ≤ 1000 := Nat.le_trans (List.length_filter_le _ _) hz
  have lc : lcE (iseq (call m_mark_deeds (argC (var 0) argN))) [1] (gnm 1) yes (cst (.int 0)) [some (rowD n xs out), none] = .ok (.lst ((zer xs).map nD)) := by
    have ez : (zer xs).map nD = (xs.filter Deed.marked).map fun _ => .int 0 := by
      unfold zer tops
      rw [List.length_map]
      apply List.ext_getElem
      · simp
      · intro i a b
        simp [nD]
    rw [ez]
    refine lc_mapI (k := Deed.d) ?_ (le_sz hl) fun x _ => ⟨_, rfl, rfl⟩
    generalize rowD n xs out = R at *
    generalize (xs.filter Deed.marked).map Deed.d = X at *
    simp [var, hd]
  unfold m_first_marks
  rw [fn1]
  unfold b_first_marks
  show done (ret (un btuple _) [some (rowD n xs out), none]) = _
  rw [ret_eq, un_eq, lc]
  rfl
end
end Py.U
namespace Py.U
open PySem
/-! ### one tuple of marks at all letters -/
def nx1 (n : Nat) (xs : List Deed) (ms : List Nat) (l : Nat) : List Nat := (runD ms (lb n l) xs).2
def ot1 (n : Nat) (xs : List Deed) (out : Nat) (ms : List Nat) (l : Nat) : Nat := at0 (runD ms (lb n l) xs).1 out
abbrev ldK (n : Nat) (xs : List Deed) (out : Nat) : List Nat → List (Nat × List Nat) := ldZ (2 ^ n) (nx1 n xs) (ot1 n xs out)
theorem nx1_fit {n : Nat} {xs : List Deed} (hr : Row n xs) (hz : n + xs.length ≤ 1000) {ms : List Nat} (h : Fit ms (tops xs)) (l : Nat) : Fit (nx1 n xs ms l) (tops xs) := by
  have := (runD_at l h hr hz).fit
  rw [List.take_length] at this
  exact this
theorem all_lanes_ok {n out : Nat} {xs : List Deed} (h1 : 1 ≤ n) (h3 : n ≤ 3) (hr : Row n xs) (hz : n + xs.length ≤ 1000) {ms : List Nat} (h : Fit ms (tops xs)) :
    ∃ ls : List Nat, ls.length = n + xs.length ∧ (∀ l, l < 2 ^ n → ∀ a, bt (at0 ls a) l = at0 (runD ms (lb n l) xs).1 a) ∧ m_all_lanes [rowD n xs out, rD ms] = .ok (.tup [.lst (ls.map nD), .lst ((List.range (2 ^ n)).map fun l => rD (nx1 n xs ms l))]) := by
  obtain ⟨ls, _, h2, h4, e⟩ := many_lanes_ok (out := out) (many := [ms]) h1 h3 hr hz (by simp) (fun m hm => by rw [List.mem_singleton.mp hm]; exact h) (top5 hr)
  have mp : ∀ p, p < 2 ^ n → msP (2 ^ n) [ms] p = ms := fun p hp => by
    unfold msP
    rw [Nat.div_eq_of_lt hp]
    rfl
  refine ⟨ls, h2, fun l hl a => ?_, ?_⟩
  · rw [h4 l (by simpa using hl) a, mp l hl, Nat.mod_eq_of_lt hl]
  · have e2 : ((List.range (2 ^ n * [ms].length)).map fun p => rD (nxP n xs [ms] p)) = (List.range (2 ^ n)).map fun l => rD (nx1 n xs ms l) := by
      rw [List.length_singleton, Nat.mul_one]
      refine List.map_congr_left fun p hp => ?_
      have hp' := List.mem_range.mp hp
      unfold nxP nx1
      rw [mp p hp', Nat.mod_eq_of_lt hp']
    rw [e2] at e
    have e' : m_many_lanes [rowD n xs out, .lst [rD ms]] = _ := e
    unfold m_all_lanes
    rw [fn2]
    unfold b_all_lanes
    generalize rD ms = M at *
    generalize rowD n xs out = R at *
    simp [var, e']
/-! ### zero_steps -/
def ixU {α : Type} [DecidableEq α] (f : List α) (q : α) : Nat := f.idxOf q
theorem ixU_app {α : Type} [DecidableEq α] {f r : List α} {q : α} (h : q ∈ f) : ixU (f ++ r) q = ixU f q := idx_app h
theorem find_U (q : List Nat) (f : List (List Nat)) : find (rD q) (tabF rD 0 f) = if q ∈ f then some (nD (ixU f q)) else none := by
  have := find_tabF key_rD q f 0
  rw [Nat.zero_add] at this
  by_cases h : q ∈ f
  · rw [if_pos h] at this ⊢
    exact this
  · rw [if_neg h] at this ⊢
    exact this
def pD (x : Nat × Nat) : D := .tup [nD x.1, nD x.2]
def lnD (ln : List (Nat × Nat)) : D := .lst (ln.map pD)
def zsB : SM := (seq (Py.ite (tst (bin oand (bin oshr (bin oidx (var 5) (un (oattr ["Row"] "out") (var 0))) (var 8)) (cst (.int 1)))) cnt skip)
  (seq (Py.ite (tst (bin onotin (var 9) (var 2))) (seq (setL 2 (var 9) (un blen (var 3)))
  (app 3 (var 9))) skip)
  (app 7 (tupE (argC (var 8) (argC (bin oidx (var 2) (var 9)) argN))))))
def zE (R B0 ST LA NX : D) (f : List (List Nat)) (ln : List (Nat × Nat)) (o8 o9 : Option D) : Env := [some R, some B0, some (.dic true (tabF rD 0 f)), some (.lst (f.map rD)), some ST, some LA, some NX, some (lnD ln), o8, o9]
theorem truthy_n (b : Nat) : truthy (nD b) = .ok (b != 0) := by
  unfold nD
  rw [truthy_i]
  congr 1
  rw [Bool.eq_iff_iff]
  simp
theorem zs_step {R B0 ST LA NX : D} {out v l : Nat} {q : List Nat} {f : List (List Nat)} {ln : List (Nat × Nat)} (h5 : oattr ["Row"] "out" R = .ok (nD out)) (h6 : oidx LA (nD out) = .ok (nD v)) (hf : f.length < 10000) (hl : ln.length < 10000) (o8 o9 : Option D) :
    forB (gtup [(gnm 8), (gnm 9)]) zsB (.tup [nD l, rD q]) (zE R B0 ST LA NX f ln o8 o9) = .ok (if bt v l = 0 then .next (zE R B0 ST LA NX (addU f q) (ln ++ [(l, ixU (addU f q) q)]) (some (nD l)) (some (rD q))) else .cnt (zE R B0 ST LA NX f ln (some (nD l)) (some (rD q)))) := by
  have s1 := bitN1 v l
  have s2 := bitN2 (v / 2 ^ l)
  have s3 := truthy_n (v / 2 ^ l % 2)
  have hk := key_rD.ok q
  have f1 := find_U q f
  have z7 : (ln.map pD).length < SZ := by rw [List.length_map]; exact Nat.lt_of_lt_of_le hl (by decide)
  have z3 : (f.map rD).length < SZ := by rw [List.length_map]; exact Nat.lt_of_lt_of_le hf (by decide)
  show zsB [some R, some B0, some (.dic true (tabF rD 0 f)), some (.lst (f.map rD)), some ST, some LA, some NX, some (lnD ln), some (nD l), some (rD q)] = _
  unfold bt
  by_cases hb : v / 2 ^ l % 2 = 0
  · rw [if_pos hb]
    rw [hb] at s2 s3
    have s3' : truthy (nD 0) = .ok false := s3
    unfold zE zsB lnD
    rw [List.map_append, List.map_singleton]
    by_cases hq : q ∈ f
    · rw [if_pos hq] at f1
      have n1 : onotin (rD q) (.dic true (tabF rD 0 f)) = .ok (.bl false) := by rw [onotin_dic hk, f1]; rfl
      have g1 := oidx_dic (t := true) hk f1
      have e : addU f q = f := if_pos hq
      rw [e]
      have pe : pD (l, ixU f q) = .tup [nD l, nD (ixU f q)] := rfl
      rw [pe]
      generalize tabF rD 0 f = T at *
      generalize rD q = Q at *
      generalize f.map rD = FM at *
      generalize ln.map pD = LN at *
      generalize nD (ixU f q) = N at *
      generalize nD (v / 2 ^ l) = V2 at *
      generalize nD 0 = Z0 at *
      generalize nD v = V at *
      generalize nD l = LL at *
      generalize nD out = OU at *
      simp [var, h5, h6, s1, s2, s3', n1, g1, z7]
    · rw [if_neg hq] at f1
      have n1 : onotin (rD q) (.dic true (tabF rD 0 f)) = .ok (.bl true) := by rw [onotin_dic hk, f1]; rfl
      have p1 := put_tabF key_rD q f 0 hq
      rw [Nat.zero_add] at p1
      have e : addU f q = f ++ [q] := if_neg hq
      have f2 := find_U q (f ++ [q])
      rw [if_pos (by simp)] at f2
      have g1 := oidx_dic (t := true) hk f2
      have b1 := lenN f rD
      have hz : (tabF rD 0 f).length < SZ := by rw [tabF_len]; exact Nat.lt_of_lt_of_le hf (by decide)
      have st : setL 2 (var 9) (un blen (var 3)) [some R, some B0, some (.dic true (tabF rD 0 f)), some (.lst (f.map rD)), some ST, some LA, some NX, some (.lst (ln.map pD)), some (nD l), some (rD q)] = .ok (.next [some R, some B0, some (.dic true (tabF rD 0 (f ++ [q]))), some (.lst (f.map rD)), some ST, some LA, some NX, some (.lst (ln.map pD)), some (nD l), some (rD q)]) := by
        rw [setL_dic (t := true) (kvs := tabF rD 0 f) (d := nD f.length) (k := rD q) rfl (by simp [var, b1]) rfl hk hz, p1]
        rfl
      rw [e, List.map_append, List.map_singleton]
      have pe : pD (l, ixU (f ++ [q]) q) = .tup [nD l, nD (ixU (f ++ [q]) q)] := rfl
      rw [pe]
      generalize tabF rD 0 (f ++ [q]) = T2 at *
      generalize tabF rD 0 f = T at *
      generalize rD q = Q at *
      generalize f.map rD = FM at *
      generalize ln.map pD = LN at *
      generalize nD (ixU (f ++ [q]) q) = N at *
      generalize nD (v / 2 ^ l) = V2 at *
      generalize nD 0 = Z0 at *
      generalize nD v = V at *
      generalize nD l = LL at *
      generalize nD out = OU at *
      simp [var, h5, h6, s1, s2, s3', n1, st, g1, z3, z7]
  · rw [if_neg hb]
    have hb1 : v / 2 ^ l % 2 = 1 := by omega
    rw [hb1] at s2 s3
    have s3' : truthy (nD 1) = .ok true := s3
    unfold zE zsB
    generalize Py.D.dic true (tabF rD 0 f) = T at *
    generalize rD q = Q at *
    generalize f.map rD = FM at *
    generalize lnD ln = LN at *
    generalize nD (v / 2 ^ l) = V2 at *
    generalize nD 1 = Z0 at *
    generalize nD v = V at *
    generalize nD l = LL at *
    generalize nD out = OU at *
    simp [var, h5, h6, s1, s2, s3']
theorem addU_len {α : Type} [DecidableEq α] (f : List α) (q : α) : (addU f q).length ≤ f.length + 1 := by
  unfold addU
  split <;> simp
theorem zs_inner {R B0 ST LA NX : D} {out v : Nat} {nx : Nat → List Nat} {ot : Nat → Nat} (h5 : oattr ["Row"] "out" R = .ok (nD out)) (h6 : oidx LA (nD out) = .ok (nD v)) : ∀ (ls : List Nat) (f : List (List Nat)) (ln : List (Nat × Nat)) (o8 o9 : Option D), (∀ l ∈ ls, bt v l = ot l) → f.length + ls.length < 10000 → ln.length + ls.length < 10000 →
    ∃ o8' o9', forL (forB (gtup [(gnm 8), (gnm 9)]) zsB) (ls.map fun l => .tup [nD l, rD (nx l)]) (zE R B0 ST LA NX f ln o8 o9) = .ok (.next (zE R B0 ST LA NX (((ls.filter fun l => ot l == 0).map nx).foldl addU f) (ln ++ (ls.filter fun l => ot l == 0).map fun l => (l, ixU (((ls.filter fun l => ot l == 0).map nx).foldl addU f) (nx l))) o8' o9'))
  | [], f, ln, o8, o9, _, _, _ => ⟨o8, o9, by simp [forL]⟩
  | l :: ls, f, ln, o8, o9, hv, hf, hl => by
    simp only [List.length_cons] at hf hl
    have q1 := zs_step (R := R) (B0 := B0) (ST := ST) (NX := NX) (q := nx l) (f := f) (ln := ln) h5 h6 (by omega) (by omega) o8 o9 (l := l)
    rw [hv l List.mem_cons_self] at q1
    rw [List.map_cons, forL, q1, List.filter_cons]
    by_cases hb : ot l = 0
    · have hb' : (ot l == 0) = true := by rw [hb]; rfl
      rw [if_pos hb, if_pos hb']
      have al := addU_len f (nx l)
      obtain ⟨o8', o9', q2⟩ := zs_inner (nx := nx) (R := R) (B0 := B0) (ST := ST) (NX := NX) h5 h6 ls (addU f (nx l)) (ln ++ [(l, ixU (addU f (nx l)) (nx l))]) (some (nD l)) (some (rD (nx l))) (fun x hx => hv x (List.mem_cons_of_mem _ hx)) (by omega) (by simp; omega)
      refine ⟨o8', o9', ?_⟩
      rw [bind_ok]
      refine q2.trans ?_
      rw [List.map_cons, List.foldl_cons, List.map_cons, List.append_assoc, List.singleton_append]
      congr 3
      obtain ⟨r, hr⟩ := foldU_pre ((ls.filter fun l => ot l == 0).map nx) (addU f (nx l))
      rw [hr, ixU_app (mem_addU.mpr (.inr rfl))]
    · have hb' : ¬ (ot l == 0) = true := by simpa using hb
      rw [if_neg hb, if_neg hb']
      obtain ⟨o8', o9', q2⟩ := zs_inner (nx := nx) (R := R) (B0 := B0) (ST := ST) (NX := NX) h5 h6 ls f ln (some (nD l)) (some (rD (nx l))) (fun x hx => hv x (List.mem_cons_of_mem _ hx)) (by omega) (by omega)
      exact ⟨o8', o9', by rw [bind_ok]; exact q2⟩
end Py.U
namespace Py.U
open PySem
/-! ### zero_steps, the walk -/
def sucZ {α : Type} (ld : α → List (Nat × α)) (p : α) : List α := (ld p).map (·.2)
section
variable {n out : Nat} {xs : List Deed}
theorem suc_zs (p : List Nat) : sucZ (ldK n xs out) p = ((List.range (2 ^ n)).filter fun l => ot1 n xs out p l == 0).map (nx1 n xs p) := by
  unfold sucZ ldK ldZ
  rw [List.map_map]
  rfl
theorem ln_zs (f : List (List Nat)) (p : List Nat) : lnZ (ldK n xs out) f p = ((List.range (2 ^ n)).filter fun l => ot1 n xs out p l == 0).map fun l => (l, ixU f (nx1 n xs p l)) := by
  unfold lnZ ldK ldZ
  rw [List.map_map]
  rfl
end
def stA {α : Type} [DecidableEq α] (ld : α → List (Nat × α)) (f : List α) (a : Nat) : List D := (f.take a).map fun p => lnD (lnZ ld f p)
theorem st_next {α : Type} [DecidableEq α] {ld : α → List (Nat × α)} {f : List α} {a : Nat} (hc : CldU (sucZ ld) f a) {p : α} (hp : f[a]? = some p) :
    stA ld ((sucZ ld p).foldl addU f) (a + 1) = stA ld f a ++ [lnD (lnZ ld ((sucZ ld p).foldl addU f) p)] := by
  obtain ⟨r, hr⟩ := foldU_pre (sucZ ld p) f
  have ha : a < f.length := by
    by_cases c : a < f.length
    · exact c
    · rw [List.getElem?_eq_none (by omega)] at hp
      cases hp
  have e1 : ((sucZ ld p).foldl addU f).take (a + 1) = f.take a ++ [p] := by
    rw [hr, List.take_append_of_le_length (by omega), List.take_add_one, hp]
    rfl
  unfold stA
  rw [e1, List.map_append, List.map_singleton]
  congr 1
  refine List.map_congr_left fun x hx => ?_
  congr 1
  unfold lnZ
  refine List.map_congr_left fun q hq => ?_
  obtain ⟨i, hi, rfl⟩ := List.mem_iff_getElem.mp hx
  rw [List.length_take] at hi
  have := hc i (f.take a)[i] (by omega) (by rw [List.getElem_take, List.getElem?_eq_getElem (by omega)]) q.2 (List.mem_map.mpr ⟨q, hq, rfl⟩)
  rw [hr, idx_app this]
theorem st_len {α : Type} [DecidableEq α] (ld : α → List (Nat × α)) {f : List α} {a : Nat} (h : a ≤ f.length) : (stA ld f a).length = a := by
  unfold stA
  rw [List.length_map, List.length_take]
  omega
def zsT : TM := tst (bin olt (un blen (var 4)) (un blen (var 3)))
def zsW : SM := (seq (asg (gtup [(gnm 5), (gnm 6)]) (call m_all_lanes (argC (var 0) (argC (bin oidx (var 3) (un blen (var 4))) argN))))
  (seq (asg (gnm 7) (lstE argN))
  (seq (for_ (ienum (var 6)) (gtup [(gnm 8), (gnm 9)]) zsB)
  (app 4 (var 7)))))
section
variable {n out : Nat} {xs : List Deed} {B0 : D}
def wE (n : Nat) (xs : List Deed) (out : Nat) (B0 : D) (f : List (List Nat)) (a : Nat) (o5 o6 o7 o8 o9 : Option D) : Env := [some (rowD n xs out), some B0, some (.dic true (tabF rD 0 f)), some (.lst (f.map rD)), some (.lst (stA (ldK n xs out) f a)), o5, o6, o7, o8, o9]
theorem zs_test {f : List (List Nat)} {a : Nat} (ha : a ≤ f.length) (o5 o6 o7 o8 o9 : Option D) : zsT (wE n xs out B0 f a o5 o6 o7 o8 o9) = .ok (decide (a < f.length)) := by
  have e1 : blen (.lst (stA (ldK n xs out) f a)) = .ok (nD a) := by
    show Res.ok (Py.D.int _) = _
    rw [st_len _ ha]
    rfl
  have e2 := lenN f rD
  have e3 := oltN a f.length
  unfold zsT wE
  generalize rowD n xs out = R at *
  generalize stA (ldK n xs out) f a = SA at *
  generalize Py.D.dic true (tabF rD 0 f) = T at *
  generalize f.map rD = FM at *
  generalize nD a = A at *
  generalize nD f.length = L at *
  simp [var, e1, e2, e3]
theorem zs_body (h1 : 1 ≤ n) (h3 : n ≤ 3) (hr : Row n xs) (hz : n + xs.length ≤ 1000) (ho : out < n + xs.length) {f : List (List Nat)} {a : Nat} {p : List Nat} (hp : f[a]? = some p) (hf : Fit p (tops xs)) (hc : CldU (sucZ (ldK n xs out)) f a) (hl : f.length ≤ 1000) (o5 o6 o7 o8 o9 : Option D) :
    ∃ o5' o6' o7' o8' o9', zsW (wE n xs out B0 f a o5 o6 o7 o8 o9) = .ok (.next (wE n xs out B0 ((sucZ (ldK n xs out) p).foldl addU f) (a + 1) o5' o6' o7' o8' o9')) := by
  have p8 := Nat.pow_le_pow_right (n := 2) (by decide) h3
  have ha : a < f.length := by
    by_cases c : a < f.length
    · exact c
    · rw [List.getElem?_eq_none (by omega)] at hp
      cases hp
  obtain ⟨ls, g1, g2, g3⟩ := all_lanes_ok (out := out) h1 h3 hr hz hf
  have h5 : oattr ["Row"] "out" (rowD n xs out) = .ok (nD out) := rfl
  have h6 : oidx (.lst (ls.map nD)) (nD out) = .ok (nD (at0 ls out)) := bits_at (by omega)
  obtain ⟨o8', o9', q⟩ := zs_inner (R := rowD n xs out) (B0 := B0) (ST := .lst (stA (ldK n xs out) f a)) (LA := .lst (ls.map nD)) (NX := .lst ((List.range (2 ^ n)).map fun l => rD (nx1 n xs p l))) (nx := nx1 n xs p) (ot := ot1 n xs out p) h5 h6 (List.range (2 ^ n)) f [] o8 o9 (fun l hl => g2 l (List.mem_range.mp hl) out) (by simp; omega) (by simp; omega)
  rw [List.nil_append, ← suc_zs, ← ln_zs] at q
  have e0 := st_len (ldK n xs out) (f := f) (a := a) (by omega)
  have e1 : blen (.lst (stA (ldK n xs out) f a)) = .ok (nD a) := by
    show Res.ok (Py.D.int _) = _
    rw [e0]
    rfl
  have e2 : oidx (.lst (f.map rD)) (nD a) = .ok (rD p) := oidx_l (by rw [List.getElem?_map, hp]; rfl)
  have e4 : ienum (var 6) (zE (rowD n xs out) B0 (.lst (stA (ldK n xs out) f a)) (.lst (ls.map nD)) (.lst ((List.range (2 ^ n)).map fun l => rD (nx1 n xs p l))) f [] o8 o9) = .ok ((List.range (2 ^ n)).map fun l => .tup [nD l, rD (nx1 n xs p l)]) := by
    show Res.ok (enumL 0 ((List.range (2 ^ n)).map fun l => rD (nx1 n xs p l))) = _
    rw [enum_rng]
    rfl
  have sn := st_next hc hp
  refine ⟨some (.lst (ls.map nD)), some (.lst ((List.range (2 ^ n)).map fun l => rD (nx1 n xs p l))), some (lnD (lnZ (ldK n xs out) ((sucZ (ldK n xs out) p).foldl addU f) p)), o8', o9', ?_⟩
  have z4 : (stA (ldK n xs out) f a).length < SZ := by rw [e0]; exact Nat.lt_of_lt_of_le (Nat.lt_of_lt_of_le ha hl) (by decide)
  unfold zsW wE
  rw [sn]
  refine (seq_next (e' := [some (rowD n xs out), some B0, some (.dic true (tabF rD 0 f)), some (.lst (f.map rD)), some (.lst (stA (ldK n xs out) f a)), some (.lst (ls.map nD)), some (.lst ((List.range (2 ^ n)).map fun l => rD (nx1 n xs p l))), o7, o8, o9]) ?_).trans ?_
  · generalize rowD n xs out = R at *
    generalize stA (ldK n xs out) f a = SA at *
    generalize Py.D.dic true (tabF rD 0 f) = T at *
    generalize f.map rD = FM at *
    generalize nD a = A at *
    generalize rD p = PP at *
    generalize ls.map nD = LS at *
    generalize ((List.range (2 ^ n)).map fun l => rD (nx1 n xs p l)) = NXS at *
    rw [asg_eq]
    have cc : call m_all_lanes (argC (var 0) (argC (bin oidx (var 3) (un blen (var 4))) argN)) [some R, some B0, some T, some (.lst FM), some (.lst SA), o5, o6, o7, o8, o9] = .ok (.tup [.lst LS, .lst NXS]) := by
      simp [var, e1, e2, g3]
    rw [cc]
    rfl
  refine (asg_pass (d := .lst []) rfl).trans ?_
  refine (for_pass e4 q).trans ?_
  unfold zE
  have vv : var 7 [some (rowD n xs out), some B0, some (Py.D.dic true (tabF rD 0 ((sucZ (ldK n xs out) p).foldl addU f))), some (.lst (((sucZ (ldK n xs out) p).foldl addU f).map rD)), some (.lst (stA (ldK n xs out) f a)), some (.lst (ls.map nD)), some (.lst ((List.range (2 ^ n)).map fun l => rD (nx1 n xs p l))), some (lnD (lnZ (ldK n xs out) ((sucZ (ldK n xs out) p).foldl addU f) p)), o8', o9'] = .ok (lnD (lnZ (ldK n xs out) ((sucZ (ldK n xs out) p).foldl addU f) p)) := rfl
  rw [app_eq]
  show (Res.ok _ >>= _) = _
  rw [bind_ok]
  show (var 7 _ >>= _) = _
  rw [vv, bind_ok, if_pos z4]
  rfl
theorem zs_loop (h1 : 1 ≤ n) (h3 : n ≤ 3) (hr : Row n xs) (hz : n + xs.length ≤ 1000) (ho : out < n + xs.length) {U : List (List Nat)} (hU : ∀ p, Fit p (tops xs) → p ∈ U) (hUl : U.length ≤ 1000) : ∀ (k fu : Nat) (f : List (List Nat)) (a : Nat) (o5 o6 o7 o8 o9 : Option D), FndU (fun p => Fit p (tops xs)) f → CldU (sucZ (ldK n xs out)) f a → a ≤ f.length → U.length ≤ a + k → k < fu →
    ∃ o5' o6' o7' o8' o9', whileL zsT zsW fu (wE n xs out B0 f a o5 o6 o7 o8 o9) = .ok (.next (wE n xs out B0 (cloL (sucZ (ldK n xs out)) k f a) (cloL (sucZ (ldK n xs out)) k f a).length o5' o6' o7' o8' o9'))
  | k, 0, _, _, _, _, _, _, _, _, _, _, _, h => by omega
  | 0, fu + 1, f, a, o5, o6, o7, o8, o9, hF, hc, ha, hk, _ => by
    have l := hF.nd.length_le_of_subset fun p hp => hU p (hF.all p hp)
    have e : a = f.length := by omega
    refine ⟨o5, o6, o7, o8, o9, ?_⟩
    rw [wh_stop (by rw [zs_test ha, decide_eq_false (by omega)])]
    subst e
    rfl
  | k + 1, fu + 1, f, a, o5, o6, o7, o8, o9, hF, hc, ha, hk, hfu => by
    have l := hF.nd.length_le_of_subset fun p hp => hU p (hF.all p hp)
    rw [cloL]
    cases hp : f[a]? with
    | none =>
      have e : a = f.length := by
        by_cases c : a < f.length
        · rw [List.getElem?_eq_getElem c] at hp
          cases hp
        · omega
      refine ⟨o5, o6, o7, o8, o9, ?_⟩
      rw [wh_stop (by rw [zs_test ha, decide_eq_false (by omega)])]
      subst e
      rfl
    | some p =>
      have hlt : a < f.length := by
        by_cases c : a < f.length
        · exact c
        · rw [List.getElem?_eq_none (by omega)] at hp
          cases hp
      have fit := hF.all p (List.mem_of_getElem? hp)
      have sf : ∀ p, Fit p (tops xs) → ∀ q ∈ sucZ (ldK n xs out) p, Fit q (tops xs) := fun p h q hq => by
        rw [suc_zs] at hq
        obtain ⟨l, _, rfl⟩ := List.mem_map.mp hq
        exact nx1_fit hr hz h l
      obtain ⟨f1, f2⟩ := hF.step sf fit
      obtain ⟨o5', o6', o7', o8', o9', q⟩ := zs_body (B0 := B0) h1 h3 hr hz ho hp fit hc (by omega) o5 o6 o7 o8 o9
      obtain ⟨r, hr2⟩ := foldU_pre (sucZ (ldK n xs out) p) f
      obtain ⟨b5, b6, b7, b8, b9, q2⟩ := zs_loop h1 h3 hr hz ho hU hUl k fu _ (a + 1) o5' o6' o7' o8' o9' f1 (hc.step hp) (by rw [hr2, List.length_append]; omega) (by omega) (by omega)
      exact ⟨b5, b6, b7, b8, b9, by rw [wh_next (by rw [zs_test ha, decide_eq_true hlt]) q]; exact q2⟩
end
/-- the marks met where the row writes 0 -/
def clZ (n : Nat) (xs : List Deed) (out : Nat) : List (List Nat) := cloL (sucZ (ldK n xs out)) (prd (tops xs)) [zer xs] 0
section
variable {n out : Nat} {xs : List Deed}
theorem clZ_ok (hr : Row n xs) (hz : n + xs.length ≤ 1000) : FndU (fun p => Fit p (tops xs)) (clZ n xs out) ∧ CldU (sucZ (ldK n xs out)) (clZ n xs out) (clZ n xs out).length ∧ (clZ n xs out).length ≤ prd (tops xs) := by
  have := clo_ok (succ := sucZ (ldK n xs out)) (P := fun p => Fit p (tops xs)) (fun p h q hq => by
    rw [suc_zs] at hq
    obtain ⟨l, _, rfl⟩ := List.mem_map.mp hq
    exact nx1_fit hr hz h l) (U := allM (tops xs)) (fun p h => allM_mem h) (prd (tops xs)) [zer xs] 0 ⟨by simp, fun p hp => by rw [List.mem_singleton.mp hp]; exact zer_fit hr⟩ (fun i p hi => by omega) (by simp) (by rw [allM_len]; omega)
  rw [allM_len] at this
  exact this
theorem clZ_tab (hr : Row n xs) (hz : n + xs.length ≤ 1000) : TabZ (ldK n xs out) (clZ n xs out) (zer xs) := by
  obtain ⟨h1, h2, _⟩ := clZ_ok (out := out) hr hz
  refine ⟨fun p hp x hx => ?_, ?_⟩
  · obtain ⟨i, hi, rfl⟩ := List.mem_iff_getElem.mp hp
    exact h2 i _ hi (List.getElem?_eq_getElem hi) x.2 (List.mem_map.mpr ⟨x, hx, rfl⟩)
  · obtain ⟨r, hr⟩ := clo_pre (succ := sucZ (ldK n xs out)) (prd (tops xs)) [zer xs] 0
    exact ⟨r, hr⟩
theorem zero_steps_ok (h1 : 1 ≤ n) (h3 : n ≤ 3) (hr : Row n xs) (hz : n + xs.length ≤ 1000) (ho : out < n + xs.length) (hp : prd (tops xs) ≤ 1000) :
    m_zero_steps [rowD n xs out] = .ok (.lst (((clZ n xs out).map (lnZ (ldK n xs out) (clZ n xs out))).map lnD)) := by
  have f0 := first_marks_ok (n := n) (out := out) (xs := xs) (by omega)
  obtain ⟨b5, b6, b7, b8, b9, q⟩ := zs_loop (B0 := rD (zer xs)) h1 h3 hr hz ho (U := allM (tops xs)) (fun p h => allM_mem h) (by rw [allM_len]; exact hp) (prd (tops xs)) FUEL [zer xs] 0 none none none none none ⟨by simp, fun p hp => by rw [List.mem_singleton.mp hp]; exact zer_fit hr⟩ (fun i p hi => by omega) (by simp) (by rw [allM_len]; omega) (Nat.lt_of_le_of_lt hp (by decide))
  have d1 : dic1 true (var 1) (cst (.int 0)) [some (rowD n xs out), some (rD (zer xs)), none, none, none, none, none, none, none, none] = .ok (.dic true (tabF rD 0 [zer xs])) := dic1_eq rfl rfl (key_rD.ok _)
  unfold m_zero_steps
  rw [fn1]
  unfold b_zero_steps
  refine (congrArg done ((asg_pass (d := rD (zer xs)) ?_).trans ?_)).trans (done_ret _)
  · generalize rowD n xs out = R at *
    simp [var, f0]
  refine (asg_pass d1).trans ?_
  refine (asg_pass (d := .lst ([zer xs].map rD)) rfl).trans ?_
  refine (asg_pass (d := .lst []) rfl).trans ?_
  refine (seq_next q).trans ?_
  show Res.ok (Fl.ret (Py.D.lst (stA (ldK n xs out) (clZ n xs out) (clZ n xs out).length))) = _
  unfold stA
  rw [List.take_length, List.map_map]
  rfl
end
end Py.U
namespace Py.U
open PySem
/-! ### count_zeros -/
theorem cast_sum {β : Type} (f : β → Nat) : ∀ ys : List β, (ys.map fun y => ((f y : Nat) : Int)).sum = (((ys.map f).sum : Nat) : Int)
  | [] => rfl
  | y :: ys => by
    rw [List.map_cons, List.map_cons, List.sum_cons, List.sum_cons, cast_sum f ys]
    omega
theorem nsum {β : Type} (f : β → Nat) (ys : List β) : bsum (.lst (ys.map fun y => nD (f y))) = .ok (nD (ys.map f).sum) := by
  have := sum_map (fun y => ((f y : Nat) : Int)) ys
  rw [cast_sum] at this
  exact this
theorem isnum_ok (w : Nat) : m_is_number [nD w] = .ok (.bl true) := by
  have h1 := isint_ok w
  have h2 : oge (nD w) (.int 0) = .ok (.bl true) := by
    unfold nD
    rw [oge_ii, decide_eq_true (by omega)]
  unfold m_is_number
  rw [fn1]
  unfold b_is_number
  generalize nD w = W at *
  simp [var, h1, h2]
def glD (ln : List (Nat × Nat)) : D := .lst (ln.map fun g => nD g.2)
def czM : EM := (un bsum (lcE (iseq (var 5)) [6] (gnm 6) yes (bin oidx (var 3) (var 6))))
theorem cz_line {o0 o1 o2 o4 o6 : Option D} {ln : List (Nat × Nat)} {c : List Nat} (hg : ∀ g ∈ ln, g.2 < c.length) (hz : ln.length ≤ 1000) : czM [o0, o1, o2, some (.lst (c.map nD)), o4, some (glD ln), o6] = .ok (nD ((ln.map fun g => c.getD g.2 0).sum)) := by
  have q : lcE (iseq (var 5)) [6] (gnm 6) yes (bin oidx (var 3) (var 6)) [o0, o1, o2, some (.lst (c.map nD)), o4, some (glD ln), o6] = .ok (.lst (ln.map fun g => nD (c.getD g.2 0))) := by
    refine lc_mapI (ys := ln) (k := fun g => nD g.2) rfl (le_sz hz) fun g hm => ⟨_, rfl, ?_⟩
    have := idx_nL (hg g hm)
    show oidx (.lst (c.map nD)) (nD g.2) = _
    exact this
  unfold czM
  rw [un_eq, q, bind_ok, nsum]
section
variable {α : Type} [DecidableEq α] {ld : α → List (Nat × α)} {F : List α} {p0 : α}
def czB : SM := (asg (gnm 3) (lcE (iseq (var 2)) [5] (gnm 5) yes czM))
theorem ln_lt (T : TabZ ld F p0) {p : α} (hp : p ∈ F) : ∀ g ∈ lnZ ld F p, g.2 < F.length := fun g hg => by
  obtain ⟨x, hx, rfl⟩ := List.mem_map.mp hg
  exact List.idxOf_lt_length_of_mem (T.cl p hp x hx)
theorem cz_loop (T : TabZ ld F p0) (hF : F.length ≤ 1000) (hL : ∀ p ∈ F, (ld p).length ≤ 1000) {R W : D} : ∀ (k t : Nat) (ys : List D) (o4 : Option D), ys.length = k → ∃ o4', forL (forB (gnm 4) czB) ys [some R, some W, some (.lst (F.map fun p => glD (lnZ ld F p))), some (.lst ((F.map (Zc ld t)).map nD)), o4, none, none] = .ok (.next [some R, some W, some (.lst (F.map fun p => glD (lnZ ld F p))), some (.lst ((F.map (Zc ld (t + k))).map nD)), o4', none, none])
  | 0, t, ys, o4, h => by
    have := List.eq_nil_of_length_eq_zero h
    subst this
    exact ⟨o4, rfl⟩
  | k + 1, t, [], o4, h => by simp at h
  | k + 1, t, y :: ys, o4, h => by
    have q : lcE (iseq (var 2)) [5] (gnm 5) yes czM [some R, some W, some (.lst (F.map fun p => glD (lnZ ld F p))), some (.lst ((F.map (Zc ld t)).map nD)), some y, none, none] = .ok (.lst (F.map fun p => nD (Zc ld (t + 1) p))) := by
      refine lc_mapI (ys := F) (k := fun p => glD (lnZ ld F p)) rfl (le_sz hF) fun p hp => ⟨_, rfl, ?_⟩
      have := cz_line (o0 := some R) (o1 := some W) (o2 := some (.lst (F.map fun p => glD (lnZ ld F p)))) (o4 := some y) (o6 := none) (ln := lnZ ld F p) (c := F.map (Zc ld t)) (by rw [List.length_map]; exact ln_lt T hp) (by unfold lnZ; rw [List.length_map]; exact hL p hp)
      rw [zc_line T t hp] at this
      exact this
    have e : forB (gnm 4) czB y [some R, some W, some (.lst (F.map fun p => glD (lnZ ld F p))), some (.lst ((F.map (Zc ld t)).map nD)), o4, none, none] = .ok (.next [some R, some W, some (.lst (F.map fun p => glD (lnZ ld F p))), some (.lst ((F.map (Zc ld (t + 1))).map nD)), some y, none, none]) := by
      show czB [some R, some W, some (.lst (F.map fun p => glD (lnZ ld F p))), some (.lst ((F.map (Zc ld t)).map nD)), some y, none, none] = _
      unfold czB
      rw [show (F.map fun p => nD (Zc ld (t + 1) p)) = (F.map (Zc ld (t + 1))).map nD by rw [List.map_map]; rfl] at q
      rw [asg_eq, q, bind_ok]
      rfl
    obtain ⟨o4', q2⟩ := cz_loop T hF hL (R := R) (W := W) k (t + 1) ys (some y) (by simpa using h)
    refine ⟨o4', ?_⟩
    rw [forL, e, bind_ok]
    refine q2.trans ?_
    rw [show t + 1 + k = t + (k + 1) by omega]
end
theorem ld_len {n out : Nat} {xs : List Deed} (h3 : n ≤ 3) (p : List Nat) : (ldK n xs out p).length ≤ 8 := by
  have p8 := Nat.pow_le_pow_right (n := 2) (by decide) h3
  unfold ldK ldZ
  rw [List.length_map]
  refine Nat.le_trans (List.length_filter_le _ _) ?_
  rw [List.length_range]
  exact p8
section
variable {n out : Nat} {xs : List Deed}
theorem count_zeros_ok (h1 : 1 ≤ n) (h3 : n ≤ 3) (hr : Row n xs) (hz : n + xs.length ≤ 1000) (ho : out < n + xs.length) (hp : prd (tops xs) ≤ 1000) {w : Nat} (hw : w ≤ 1000) :
    m_count_zeros [rowD n xs out, nD w] = .ok (nD (Zc (ldK n xs out) w (zer xs))) := by
  have T := clZ_tab (out := out) hr hz
  have hF := (clZ_ok (out := out) hr hz).2.2
  have zs := zero_steps_ok h1 h3 hr hz ho hp
  have hL : ∀ p ∈ clZ n xs out, (ldK n xs out p).length ≤ 1000 := fun p _ => Nat.le_trans (ld_len h3 p) (by decide)
  have isn := isnum_ok w
  have e2 : lcE (iseq (call m_zero_steps (argC (var 0) argN))) [5] (gnm 5) yes (lcE (iseq (var 5)) [4, 6] (gtup [(gnm 4), (gnm 6)]) yes (var 6)) [some (rowD n xs out), some (nD w), none, none, none, none, none] = .ok (.lst ((clZ n xs out).map fun p => glD (lnZ (ldK n xs out) (clZ n xs out) p))) := by
    refine lc_mapI (ys := clZ n xs out) (k := fun p => lnD (lnZ (ldK n xs out) (clZ n xs out) p)) ?_ (le_sz (by omega)) fun p hp => ⟨_, rfl, ?_⟩
    · rw [List.map_map] at zs
      have zs' : m_zero_steps [rowD n xs out] = .ok (.lst ((clZ n xs out).map fun p => lnD (lnZ (ldK n xs out) (clZ n xs out) p))) := zs
      generalize rowD n xs out = R at *
      simp [var, zs']
    · refine lc_mapI (ys := lnZ (ldK n xs out) (clZ n xs out) p) (k := pD) rfl (le_sz (by unfold lnZ; rw [List.length_map]; exact hL p hp)) fun g hg => ⟨_, rfl, rfl⟩
  have e3 : lcE (iseq (var 2)) [4] (gnm 4) yes (cst (.int 1)) [some (rowD n xs out), some (nD w), some (.lst ((clZ n xs out).map fun p => glD (lnZ (ldK n xs out) (clZ n xs out) p))), none, none, none, none] = .ok (.lst (((clZ n xs out).map (Zc (ldK n xs out) 0)).map nD)) := by
    rw [List.map_map]
    exact lc_mapI (ys := clZ n xs out) (k := fun p => glD (lnZ (ldK n xs out) (clZ n xs out) p)) rfl (le_sz (by omega)) fun p hp => ⟨_, rfl, rfl⟩
  obtain ⟨o4', q⟩ := cz_loop T (by omega) hL (R := rowD n xs out) (W := nD w) w 0 ((List.range w).map nD) none (by simp)
  rw [Nat.zero_add] at q
  unfold m_count_zeros
  rw [fn2]
  unfold b_count_zeros
  refine (congrArg done ((chk_pass ?_).trans ((asg_pass e2).trans ((asg_pass e3).trans ((for_pass (irng_n rfl hw) q).trans ?_))))).trans (done_ret _)
  · generalize nD w = W at *
    generalize rowD n xs out = R at *
    simp [var, isn]
  · obtain ⟨r, hr⟩ := T.st
    have ix : oidx (.lst (((clZ n xs out).map (Zc (ldK n xs out) w)).map nD)) (.int 0) = .ok (nD (Zc (ldK n xs out) w (zer xs))) := by
      rw [hr, List.map_cons, List.map_cons]
      exact oidx_l (k := 0) rfl
    show (oidx (.lst (((clZ n xs out).map (Zc (ldK n xs out) w)).map nD)) (.int 0) >>= fun d => Res.ok (Fl.ret d)) = _
    rw [ix]
    rfl
end
end Py.U
namespace Py.U
open PySem
/-! ### first_zero -/
def boolsD (bs : List Bool) : D := .lst (bs.map .bl)
theorem any_bools {β : Type} (f : β → Bool) (ys : List β) : bany (.lst (ys.map fun y => .bl (f y))) = .ok (.bl (ys.any f)) := by
  have := boolsOf_map (ys.map f)
  rw [List.map_map] at this
  unfold bany
  have h2 : boolsOf (ys.map fun y => D.bl (f y)) = some (ys.map f) := this
  simp only [h2]
  rw [List.any_map]
  rfl
theorem compL_fil {β : Type} {f : D → Res (Option D)} {k : β → D} {p : β → Bool} : ∀ {ys : List β}, (∀ y ∈ ys, f (k y) = .ok (if p y then some (k y) else none)) → compL f (ys.map k) = .ok ((ys.filter p).map k)
  | [], _ => rfl
  | y :: ys, h => by
    rw [List.map_cons]
    unfold compL
    rw [h y List.mem_cons_self, bind_ok, compL_fil fun z hz => h z (List.mem_cons_of_mem _ hz), bind_ok, List.filter_cons]
    cases p y <;> rfl
theorem lc_fil {β : Type} {it : IM} {vs : List Nat} {j : Nat} {t : TM} {e : Env} {ys : List β} {k : β → D} {p : β → Bool} (hi : it e = .ok (ys.map k)) (hz : ys.length ≤ SZ) (hj : j < (wipe e vs).length) (ht : ∀ y ∈ ys, t ((wipe e vs).set j (some (k y))) = .ok (p y)) : lcE it vs (gnm j) t (var j) e = .ok (.lst ((ys.filter p).map k)) := by
  unfold lcE
  rw [hi]
  have q : compL (compF vs (gnm j) t (var j) e) (ys.map k) = .ok ((ys.filter p).map k) := compL_fil fun y hy => by
    unfold compF
    rw [gnm_eq]
    show (lift (some _) >>= _) = _
    rw [lift_some, bind_ok, ht y hy, bind_ok]
    cases p y
    · rfl
    · rw [if_pos rfl, if_pos rfl, var_eq (d := k y) (by rw [List.getElem?_set_self hj])]
      rfl
  simp only [bind_ok, q, noexc_ok, List.length_map]
  exact chk_ok hz
def dn : Nat → List Nat
  | 0 => []
  | m + 1 => m :: dn m
theorem dn_map : ∀ w, (List.range w).map (fun i => w - 1 - i) = dn w
  | 0 => rfl
  | w + 1 => by
    rw [List.range_succ_eq_map, List.map_cons, List.map_map, dn, ← dn_map w]
    congr 1
    refine List.map_congr_left fun i hi => ?_
    show w + 1 - 1 - (i + 1) = _
    omega
theorem rng_dn {w : Nat} (hw : w ≤ 1000) {a : EM} {e : Env} (ha : a e = .ok (nD w)) : irng3 (bin osub a (cst (.int 1))) (un oneg (cst (.int 1))) (un oneg (cst (.int 1))) e = .ok ((dn w).map nD) := by
  have h1 : bin osub a (cst (.int 1)) e = .ok (.int ((w : Int) - 1)) := by
    rw [bin_eq, ha]
    rfl
  have h2 : un oneg (cst (.int 1)) e = .ok (.int (-1)) := rfl
  unfold irng3
  rw [h1, bind_ok, h2, bind_ok, bind_ok]
  show (if ((w : Int) - 1).natAbs < B62 ∧ (-1 : Int).natAbs < B62 ∧ (0 < (-1 : Int) ∨ (-1 : Int) = -1) ∧ (-1 : Int).natAbs < 1073741824 then Res.ok (rng3L ((w : Int) - 1) (-1) (-1)) else .stuck) = _
  rw [if_pos ⟨Nat.lt_of_le_of_lt (show ((w : Int) - 1).natAbs ≤ 1000 by omega) (by decide), by decide, .inr rfl, by decide⟩]
  congr 1
  unfold rng3L cnt3
  rw [if_neg (by decide), ← dn_map, List.map_map, show ((w : Int) - 1 - -1).toNat = w by omega]
  refine List.map_congr_left fun i hi => ?_
  have := List.mem_range.mp hi
  show Py.D.int ((w : Int) - 1 + (i : Nat) * -1) = Py.D.int ((w - 1 - i : Nat) : Int)
  congr 1
  omega
section
variable {α : Type} [DecidableEq α] {ld : α → List (Nat × α)} {F : List α} {p0 : α}
theorem idx_first (T : TabZ ld F p0) : F.idxOf p0 = 0 := by
  obtain ⟨r, hr⟩ := T.st
  rw [hr]
  simp
def alvD (ld : α → List (Nat × α)) (F : List α) (t : Nat) : List D := (List.range (t + 1)).map fun s => boolsD (F.map (alv ld s))
theorem alvD_len (t : Nat) : (alvD ld F t).length = t + 1 := by simp [alvD]
theorem alvD_at {t s : Nat} (h : s ≤ t) : oidx (.lst (alvD ld F t)) (nD s) = .ok (boolsD (F.map (alv ld s))) := oidx_l (by
  unfold alvD
  rw [List.getElem?_map, List.getElem?_range (by omega)]
  rfl)
theorem alvD_last (t : Nat) : oidx (.lst (alvD ld F t)) (.int (-1)) = .ok (boolsD (F.map (alv ld t))) := idx_last (by
  rw [alvD_len, Nat.add_sub_cancel]
  unfold alvD
  rw [List.getElem?_map, List.getElem?_range (by omega)]
  rfl) (by rw [alvD_len]; omega)
theorem alvD_next (t : Nat) : alvD ld F (t + 1) = alvD ld F t ++ [boolsD (F.map (alv ld (t + 1)))] := by
  unfold alvD
  rw [List.range_succ, List.map_append]
  rfl
theorem bools_at {bs : List Bool} {i : Nat} (h : i < bs.length) : oidx (boolsD bs) (nD i) = .ok (.bl (bs.getD i false)) := oidx_l (by
  rw [List.getElem?_map, List.getElem?_eq_getElem h, List.getD_eq_getElem?_getD, List.getElem?_eq_getElem h]
  rfl)
def stD (ld : α → List (Nat × α)) (F : List α) : D := .lst (F.map fun p => lnD (lnZ ld F p))
theorem stD_at {p : α} (hp : p ∈ F) : oidx (stD ld F) (nD (F.idxOf p)) = .ok (lnD (lnZ ld F p)) := oidx_l (by
  have hl := List.idxOf_lt_length_of_mem hp
  rw [List.getElem?_map, List.getElem?_eq_getElem hl, List.getElem_idxOf hl]
  rfl)
/-- does it go on from a state? -/
def fzM : EM := (un bany (lcE (iseq (var 12)) [4, 13] (gtup [(gnm 4), (gnm 13)]) yes (bin oidx (var 5) (var 13))))
def fzA : SM := (seq (asg (gnm 5) (bin oidx (var 3) (un oneg (cst (.int 1)))))
  (app 3 (lcE (iseq (var 2)) [12] (gnm 12) yes fzM)))
theorem fz_alive (T : TabZ ld F p0) (hF : F.length ≤ 1000) (hL : ∀ p ∈ F, (ld p).length ≤ 1000) {R W : D} : ∀ (k t : Nat) (ys : List D) (o4 o5 : Option D), ys.length = k → t + k ≤ 1000 → ∃ o4' o5', forL (forB (gnm 4) fzA) ys [some R, some W, some (stD ld F), some (.lst (alvD ld F t)), o4, o5, none, none, none, none, none, none, none, none] = .ok (.next [some R, some W, some (stD ld F), some (.lst (alvD ld F (t + k))), o4', o5', none, none, none, none, none, none, none, none])
  | 0, t, ys, o4, o5, h, _ => by
    have := List.eq_nil_of_length_eq_zero h
    subst this
    exact ⟨o4, o5, rfl⟩
  | k + 1, t, [], o4, o5, h, _ => by simp at h
  | k + 1, t, y :: ys, o4, o5, h, hk => by
    have q : lcE (iseq (var 2)) [12] (gnm 12) yes fzM [some R, some W, some (stD ld F), some (.lst (alvD ld F t)), some y, some (boolsD (F.map (alv ld t))), none, none, none, none, none, none, none, none] = .ok (boolsD (F.map (alv ld (t + 1)))) := by
      have hh : boolsD (F.map (alv ld (t + 1))) = .lst (F.map fun p => .bl (alv ld (t + 1) p)) := by
        unfold boolsD
        rw [List.map_map]
        rfl
      rw [hh]
      refine lc_mapI (ys := F) (k := fun p => lnD (lnZ ld F p)) rfl (le_sz hF) fun p hp => ⟨_, rfl, ?_⟩
      have q2 : lcE (iseq (var 12)) [4, 13] (gtup [(gnm 4), (gnm 13)]) yes (bin oidx (var 5) (var 13)) [some R, some W, some (stD ld F), some (.lst (alvD ld F t)), some y, some (boolsD (F.map (alv ld t))), none, none, none, none, none, none, some (lnD (lnZ ld F p)), none] = .ok (.lst ((lnZ ld F p).map fun g => .bl ((F.map (alv ld t)).getD g.2 false))) := by
        refine lc_mapI (ys := lnZ ld F p) (k := pD) rfl (le_sz (by unfold lnZ; rw [List.length_map]; exact hL p hp)) fun g hg => ⟨_, rfl, ?_⟩
        have := bools_at (bs := F.map (alv ld t)) (i := g.2) (by rw [List.length_map]; exact ln_lt T hp g hg)
        exact this
      show fzM [some R, some W, some (stD ld F), some (.lst (alvD ld F t)), some y, some (boolsD (F.map (alv ld t))), none, none, none, none, none, none, some (lnD (lnZ ld F p)), none] = _
      unfold fzM
      rw [un_eq, q2, bind_ok, any_bools, alv_line T t hp]
    have e : forB (gnm 4) fzA y [some R, some W, some (stD ld F), some (.lst (alvD ld F t)), o4, o5, none, none, none, none, none, none, none, none] = .ok (.next [some R, some W, some (stD ld F), some (.lst (alvD ld F (t + 1))), some y, some (boolsD (F.map (alv ld t))), none, none, none, none, none, none, none, none]) := by
      show fzA [some R, some W, some (stD ld F), some (.lst (alvD ld F t)), some y, o5, none, none, none, none, none, none, none, none] = _
      unfold fzA
      refine (asg_pass (d := boolsD (F.map (alv ld t))) (alvD_last t)).trans ?_
      show app 3 _ [some R, some W, some (stD ld F), some (.lst (alvD ld F t)), some y, some (boolsD (F.map (alv ld t))), none, none, none, none, none, none, none, none] = _
      rw [app_eq, var_eq (d := .lst (alvD ld F t)) rfl, bind_ok]
      show (lcE _ _ _ _ _ _ >>= _) = _
      rw [q, bind_ok, if_pos (by rw [alvD_len]; exact Nat.lt_of_le_of_lt (show t + 1 ≤ 1000 by omega) (by decide)), alvD_next]
      rfl
    obtain ⟨o4', o5', q2⟩ := fz_alive T hF hL (R := R) (W := W) k (t + 1) ys (some y) (some (boolsD (F.map (alv ld t)))) (by simpa using h) (by omega)
    refine ⟨o4', o5', ?_⟩
    rw [forL, e, bind_ok]
    refine q2.trans ?_
    rw [show t + 1 + k = t + (k + 1) by omega]
def fzR : SM := (seq (asg (gnm 9) (lcE (iseq (bin oidx (var 2) (var 6))) [11] (gnm 11) (tst (bin oidx (bin oidx (var 3) (var 8)) (bin oidx (var 11) (cst (.int 1))))) (var 11)))
  (seq (asg (gtup [(gnm 10), (gnm 6)]) (bin oidx (var 9) (cst (.int 0))))
  (app 7 (var 10))))
theorem fr_step {m : Nat} {p : α} (h : alv ld (m + 1) p = true) : ∃ x rest, (ld p).filter (fun x => alv ld m x.2) = x :: rest ∧ alv ld m x.2 = true ∧ x ∈ ld p ∧ frZ ld (m + 1) p = x.1 :: frZ ld m x.2 := by
  rw [alv, List.any_eq_true] at h
  obtain ⟨x, hx, q⟩ := h
  cases e : (ld p).filter (fun x => alv ld m x.2) with
  | nil =>
    have : x ∈ (ld p).filter (fun x => alv ld m x.2) := List.mem_filter.mpr ⟨hx, q⟩
    rw [e] at this
    cases this
  | cons y rest =>
    have hy : y ∈ (ld p).filter (fun x => alv ld m x.2) := by rw [e]; exact List.mem_cons_self
    obtain ⟨h1, h2⟩ := List.mem_filter.mp hy
    exact ⟨y, rest, rfl, h2, h1, by rw [frZ, e]⟩
theorem fz_read (T : TabZ ld F p0) (hL : ∀ p ∈ F, (ld p).length ≤ 1000) {R W : D} {w : Nat} {o4 o5 : Option D} : ∀ (m : Nat) (p : α) (r : List Nat) (o8 o9 o10 : Option D), p ∈ F → alv ld m p = true → m ≤ w → r.length + m ≤ 1000 →
    ∃ o6 o8' o9' o10', forL (forB (gnm 8) fzR) ((dn m).map nD) [some R, some W, some (stD ld F), some (.lst (alvD ld F w)), o4, o5, some (nD (F.idxOf p)), some (.lst (r.map nD)), o8, o9, o10, none, none, none] = .ok (.next [some R, some W, some (stD ld F), some (.lst (alvD ld F w)), o4, o5, o6, some (.lst ((r ++ frZ ld m p).map nD)), o8', o9', o10', none, none, none])
  | 0, p, r, o8, o9, o10, _, _, _, _ => ⟨_, o8, o9, o10, by rw [frZ, List.append_nil]; rfl⟩
  | m + 1, p, r, o8, o9, o10, hp, ha, hm, hr => by
    obtain ⟨x, rest, f1, f2, f3, f4⟩ := fr_step ha
    have hx := T.cl p hp x f3
    have q : lcE (iseq (bin oidx (var 2) (var 6))) [11] (gnm 11) (tst (bin oidx (bin oidx (var 3) (var 8)) (bin oidx (var 11) (cst (.int 1))))) (var 11) [some R, some W, some (stD ld F), some (.lst (alvD ld F w)), o4, o5, some (nD (F.idxOf p)), some (.lst (r.map nD)), some (nD m), o9, o10, none, none, none] = .ok (.lst (((lnZ ld F p).filter fun g => (F.map (alv ld m)).getD g.2 false).map pD)) := by
      refine lc_fil (ys := lnZ ld F p) ?_ (le_sz (by unfold lnZ; rw [List.length_map]; exact hL p hp)) (by simp [wipe]) fun g hg => ?_
      · have := stD_at (ld := ld) hp
        rw [iseq_eq]
        show (oidx (stD ld F) (nD (F.idxOf p)) >>= _) = _
        rw [this]
        rfl
      · have b1 := bools_at (bs := F.map (alv ld m)) (i := g.2) (by rw [List.length_map]; exact ln_lt T hp g hg)
        have b2 := alvD_at (ld := ld) (F := F) (t := w) (s := m) (by omega)
        show ((oidx (.lst (alvD ld F w)) (nD m) >>= fun x => (oidx (pD g) (.int 1)) >>= fun y => oidx x y) >>= truthy) = _
        rw [b2, bind_ok]
        show (oidx (boolsD (F.map (alv ld m))) (nD g.2) >>= truthy) = _
        rw [b1, bind_ok, truthy_b]
    rw [fil_line T m hp, f1] at q
    have e : forB (gnm 8) fzR (nD m) [some R, some W, some (stD ld F), some (.lst (alvD ld F w)), o4, o5, some (nD (F.idxOf p)), some (.lst (r.map nD)), o8, o9, o10, none, none, none] = .ok (.next [some R, some W, some (stD ld F), some (.lst (alvD ld F w)), o4, o5, some (nD (F.idxOf x.2)), some (.lst ((r ++ [x.1]).map nD)), some (nD m), some (.lst ((((x :: rest).map fun x => (x.1, F.idxOf x.2))).map pD)), some (nD x.1), none, none, none]) := by
      show fzR [some R, some W, some (stD ld F), some (.lst (alvD ld F w)), o4, o5, some (nD (F.idxOf p)), some (.lst (r.map nD)), some (nD m), o9, o10, none, none, none] = _
      unfold fzR
      refine (asg_pass q).trans ?_
      refine (seq_next (e' := [some R, some W, some (stD ld F), some (.lst (alvD ld F w)), o4, o5, some (nD (F.idxOf x.2)), some (.lst (r.map nD)), some (nD m), some (.lst ((((x :: rest).map fun x => (x.1, F.idxOf x.2))).map pD)), some (nD x.1), none, none, none]) ?_).trans ?_
      · rw [asg_eq]
        show (oidx (.lst ((((x :: rest).map fun x => (x.1, F.idxOf x.2))).map pD)) (.int 0) >>= _) = _
        rw [show oidx (.lst ((((x :: rest).map fun x => (x.1, F.idxOf x.2))).map pD)) (.int 0) = .ok (pD (x.1, F.idxOf x.2)) from oidx_l (k := 0) rfl]
        rfl
      rw [app_eq, var_eq (d := .lst (r.map nD)) rfl, bind_ok]
      show (var 10 _ >>= _) = _
      rw [var_eq (d := nD x.1) rfl, bind_ok, if_pos (by rw [List.length_map]; exact Nat.lt_of_le_of_lt (show r.length ≤ 1000 by omega) (by decide)), List.map_append]
      rfl
    obtain ⟨o6, o8', o9', o10', q2⟩ := fz_read T hL (R := R) (W := W) (w := w) (o4 := o4) (o5 := o5) m x.2 (r ++ [x.1]) (some (nD m)) (some (.lst ((((x :: rest).map fun x => (x.1, F.idxOf x.2))).map pD))) (some (nD x.1)) hx f2 (by omega) (by simp; omega)
    refine ⟨o6, o8', o9', o10', ?_⟩
    rw [dn, List.map_cons, forL, e, bind_ok]
    refine q2.trans ?_
    rw [f4, List.append_assoc]
    rfl
end
def ansZ {α : Type} [DecidableEq α] (ld : α → List (Nat × α)) (w : Nat) (p : α) : D := if alv ld w p then rD (frZ ld w p) else .non
section
variable {n out : Nat} {xs : List Deed}
theorem first_zero_ok (h1 : 1 ≤ n) (h3 : n ≤ 3) (hr : Row n xs) (hz : n + xs.length ≤ 1000) (ho : out < n + xs.length) (hp : prd (tops xs) ≤ 1000) {w : Nat} (hw : w ≤ 1000) :
    m_first_zero [rowD n xs out, nD w] = .ok (ansZ (ldK n xs out) w (zer xs)) := by
  have T := clZ_tab (out := out) hr hz
  have hF := (clZ_ok (out := out) hr hz).2.2
  have zs : m_zero_steps [rowD n xs out] = .ok (stD (ldK n xs out) (clZ n xs out)) := by
    rw [zero_steps_ok h1 h3 hr hz ho hp, List.map_map]
    rfl
  have hL : ∀ p ∈ clZ n xs out, (ldK n xs out p).length ≤ 1000 := fun p _ => Nat.le_trans (ld_len h3 p) (by decide)
  have isn := isnum_ok w
  have e3 : lstE (argC (lcE (iseq (var 2)) [4] (gnm 4) yes (cst (.bl true))) argN) [some (rowD n xs out), some (nD w), some (stD (ldK n xs out) (clZ n xs out)), none, none, none, none, none, none, none, none, none, none, none] = .ok (.lst (alvD (ldK n xs out) (clZ n xs out) 0)) := by
    have q : lcE (iseq (var 2)) [4] (gnm 4) yes (cst (.bl true)) [some (rowD n xs out), some (nD w), some (stD (ldK n xs out) (clZ n xs out)), none, none, none, none, none, none, none, none, none, none, none] = .ok (boolsD ((clZ n xs out).map (alv (ldK n xs out) 0))) := by
      unfold boolsD
      rw [List.map_map]
      exact lc_mapI (ys := clZ n xs out) (k := fun p => lnD (lnZ (ldK n xs out) (clZ n xs out) p)) rfl (le_sz (by omega)) fun p hp => ⟨_, rfl, rfl⟩
    rw [lstE_eq, argC_eq, q]
    rfl
  obtain ⟨o4', o5', q⟩ := fz_alive T (by omega) hL (R := rowD n xs out) (W := nD w) w 0 ((List.range w).map nD) none none (by simp) (by omega)
  rw [Nat.zero_add] at q
  obtain ⟨r, hr2⟩ := T.st
  have mem0 : zer xs ∈ clZ n xs out := by rw [hr2]; exact List.mem_cons_self
  have a1 := alvD_at (ld := ldK n xs out) (F := clZ n xs out) (t := w) (s := w) (Nat.le_refl w)
  have a2 : oidx (boolsD ((clZ n xs out).map (alv (ldK n xs out) w))) (.int 0) = .ok (.bl (alv (ldK n xs out) w (zer xs))) := by
    rw [hr2]
    exact oidx_l (k := 0) rfl
  unfold m_first_zero
  rw [fn2]
  unfold b_first_zero
  refine (congrArg done ((chk_pass ?_).trans ((asg_pass (d := stD (ldK n xs out) (clZ n xs out)) ?_).trans ((asg_pass e3).trans ((for_pass (irng_n rfl hw) q).trans (?_ : _ = Res.ok (Fl.ret (ansZ (ldK n xs out) w (zer xs))))))))).trans (done_ret _)
  · generalize nD w = W at *
    generalize rowD n xs out = R at *
    simp [var, isn]
  · generalize rowD n xs out = R at *
    simp [var, zs]
  unfold ansZ
  cases hA : alv (ldK n xs out) w (zer xs) with
  | false =>
    rw [hA] at a2
    generalize stD (ldK n xs out) (clZ n xs out) = ST at *
    generalize alvD (ldK n xs out) (clZ n xs out) w = AL at *
    generalize boolsD ((clZ n xs out).map (alv (ldK n xs out) w)) = BL at *
    generalize nD w = W at *
    generalize rowD n xs out = R at *
    simp [var, a1, a2]
  | true =>
    rw [hA] at a2
    obtain ⟨o6, o8', o9', o10', q3⟩ := fz_read T hL (R := rowD n xs out) (W := nD w) (w := w) (o4 := o4') (o5 := o5') w (zer xs) [] none none none mem0 hA (Nat.le_refl w) (by simpa using hw)
    rw [idx_first T, List.nil_append] at q3
    rw [if_pos rfl]
    refine (chk_pass ?_).trans ((asg_pass (d := nD 0) rfl).trans ((asg_pass (d := .lst []) rfl).trans ((for_pass (rng_dn hw rfl) q3).trans rfl)))
    generalize stD (ldK n xs out) (clZ n xs out) = ST at *
    generalize alvD (ldK n xs out) (clZ n xs out) w = AL at *
    generalize boolsD ((clZ n xs out).map (alv (ldK n xs out) w)) = BL at *
    generalize nD w = W at *
    generalize rowD n xs out = R at *
    simp [var, a1, a2]
end
end Py.U
namespace Py.U
open PySem
/-! ### the law's own step -/
def stC : SM := (seq (asg (gnm 9) (cst (.int 0)))
  (seq (Py.ite (tst (bin ogt (un blen (var 6)) (cst (.int 2)))) (asg (gnm 9) (bin oidx (var 4) (bin oidx (var 6) (cst (.int 2))))) skip)
  (seq (asg (gtup [(gnm 10), (gnm 8)]) (call m_law_mark (argC (var 7) (argC (bin oidx (var 2) (un blen (var 5))) (argC (bin oidx (var 4) (bin oidx (var 6) (cst (.int 1)))) (argC (var 9) argN))))))
  (seq (app 4 (var 10))
  (app 5 (var 8))))))
def stN : SM := (seq (asg (gnm 8) (bin oidx (var 2) (un blen (var 5))))
  (seq (app 4 (un bint (bin oeq (var 8) (bin oidx (var 6) (cst (.int 2))))))
  (app 5 (bin omod (un bint (bin oadd (var 8) (un bsum (lcE (iseq (bin oidx (var 6) (cst (.int 3)))) [12] (gnm 12) yes (bin oidx (var 4) (var 12)))))) (bin oidx (var 6) (cst (.int 1)))))))
def stepB : SM := (seq (asg (gnm 7) (bin oidx (var 6) (cst (.int 0))))
  (Py.ite (tst (bin oeq (var 7) (cst (.str "not")))) (app 4 (bin osub (cst (.int 1)) (bin oidx (var 4) (bin oidx (var 6) (cst (.int 1)))))) (Py.ite (tst (bin oeq (var 7) (cst (.str "and")))) (app 4 (bin oand (bin oidx (var 4) (bin oidx (var 6) (cst (.int 1)))) (bin oidx (var 4) (bin oidx (var 6) (cst (.int 2)))))) (Py.ite (tst (bin oeq (var 7) (cst (.str "or")))) (app 4 (bin oor (bin oidx (var 4) (bin oidx (var 6) (cst (.int 1)))) (bin oidx (var 4) (bin oidx (var 6) (cst (.int 2)))))) (Py.ite (tst (bin oeq (var 7) (cst (.str "xor")))) (app 4 (bin oxor (bin oidx (var 4) (bin oidx (var 6) (cst (.int 1)))) (bin oidx (var 4) (bin oidx (var 6) (cst (.int 2)))))) (Py.ite (tst (bin oin (var 7) (tupE (argC (cst (.str "zero")) (argC (cst (.str "ones")) argN))))) (app 4 (un bint (bin oeq (var 7) (cst (.str "ones"))))) (Py.ite (tst (bin oeq (var 7) (cst (.str "count")))) stN stC)))))))
theorem oge_n (t : Nat) (k : Nat) : oge (nD t) (nD k) = .ok (.bl (decide (k ≤ t))) := by
  unfold nD
  rw [oge_ii]
  congr 2
  exact decide_eq_decide.mpr (by omega)
theorem olt_n (t k : Nat) : olt (nD t) (nD k) = .ok (.bl (decide (t < k))) := oltN t k
theorem bint_d (c : Prop) [Decidable c] : bint (.bl (decide c)) = .ok (nD (if c then 1 else 0)) := by
  by_cases h : c
  · rw [if_pos h, decide_eq_true h]; rfl
  · rw [if_neg h, decide_eq_false h]; rfl
theorem mark_shift (m a b : Nat) : m_law_mark [.str "shift", nD m, nD a, nD b] = .ok (.tup [nD m, nD a]) := rfl
theorem mark_minus (m a : Nat) : m_law_mark [.str "minus", nD m, nD a, nD 0] = .ok (.tup [nD ((a + m) % 2), nD (if 1 ≤ a + m then 1 else 0)]) := by
  have h1 := nadd a 0
  have h2 := nadd (a + 0) m
  have h3 := bitN2 (a + 0 + m)
  have h4 := oge_n (a + 0 + m) 1
  have h5 := bint_d (1 ≤ a + 0 + m)
  rw [Nat.add_zero] at h1 h2 h3 h4 h5
  have s : ∀ a b, oeq (.str a) (.str b) = .ok (.bl (a == b)) := fun _ _ => rfl
  have h4' : oge (nD (a + m)) (.int 1) = _ := h4
  unfold m_law_mark
  rw [fn4]
  unfold b__law_mark
  generalize nD (if 1 ≤ a + m then 1 else 0) = T1 at *
  generalize nD ((a + m) % 2) = T2 at *
  generalize nD (a + m) = T3 at *
  generalize nD a = A at *
  generalize nD m = MM at *
  generalize nD 0 = Z at *
  generalize decide (1 ≤ a + m) = DD at *
  simp [var, s, h1, h2, h3, h4', h5]
theorem mark_add (m a b : Nat) : m_law_mark [.str "add", nD m, nD a, nD b] = .ok (.tup [nD ((a + b + m) % 2), nD (if 2 ≤ a + b + m then 1 else 0)]) := by
  have h1 := nadd a b
  have h2 := nadd (a + b) m
  have h3 := bitN2 (a + b + m)
  have h4' : oge (nD (a + b + m)) (.int 2) = _ := oge_n (a + b + m) 2
  have h5 := bint_d (2 ≤ a + b + m)
  have s : ∀ a b, oeq (.str a) (.str b) = .ok (.bl (a == b)) := fun _ _ => rfl
  unfold m_law_mark
  rw [fn4]
  unfold b__law_mark
  generalize nD (if 2 ≤ a + b + m then 1 else 0) = T1 at *
  generalize nD ((a + b + m) % 2) = T2 at *
  generalize nD (a + b + m) = T3 at *
  generalize nD (a + b) = T4 at *
  generalize nD a = A at *
  generalize nD m = MM at *
  generalize nD b = Z at *
  generalize decide (2 ≤ a + b + m) = DD at *
  simp [var, s, h1, h2, h3, h4', h5]
theorem mark_sub (m a b : Nat) : m_law_mark [.str "sub", nD m, nD a, nD b] = .ok (.tup [nD ((a + b + m) % 2), nD (if a < b + m then 1 else 0)]) := by
  have h1 := nadd a b
  have h2 := nadd (a + b) m
  have h6 := nadd b m
  have h3 := bitN2 (a + b + m)
  have h4' := olt_n a (b + m)
  have h5 := bint_d (a < b + m)
  have s : ∀ a b, oeq (.str a) (.str b) = .ok (.bl (a == b)) := fun _ _ => rfl
  unfold m_law_mark
  rw [fn4]
  unfold b__law_mark
  generalize nD (if a < b + m then 1 else 0) = T1 at *
  generalize nD ((a + b + m) % 2) = T2 at *
  generalize nD (a + b + m) = T3 at *
  generalize nD (a + b) = T4 at *
  generalize nD (b + m) = T5 at *
  generalize nD a = A at *
  generalize nD m = MM at *
  generalize nD b = Z at *
  generalize decide (a < b + m) = DD at *
  simp [var, s, h1, h2, h6, h3, h4', h5]
theorem and_bit {a b : Nat} (ha : a = 0 ∨ a = 1) (hb : b = 0 ∨ b = 1) : (a &&& b) = if a + b = 2 then 1 else 0 := by rcases ha with rfl | rfl <;> rcases hb with rfl | rfl <;> rfl
theorem or_bit {a b : Nat} (ha : a = 0 ∨ a = 1) (hb : b = 0 ∨ b = 1) : (a ||| b) = if 0 < a + b then 1 else 0 := by rcases ha with rfl | rfl <;> rcases hb with rfl | rfl <;> rfl
theorem xor_bitN {a b : Nat} (ha : a = 0 ∨ a = 1) (hb : b = 0 ∨ b = 1) : (a ^^^ b) = if a = b then 0 else 1 := by rcases ha with rfl | rfl <;> rcases hb with rfl | rfl <;> rfl
theorem sub1 {a : Nat} (ha : a = 0 ∨ a = 1) : osub (.int 1) (nD a) = .ok (nD (1 - a)) := by rcases ha with rfl | rfl <;> rfl
abbrev zz : D := .tup [.str "zero", .str "ones"]
theorem step_plain {bs : List Nat} (hb : Bits bs) {x : Deed} (hm : x.marked = false) (hx : x.ok bs.length) {N DS MS LT : D} {Af : List D} (hz : bs.length < 10000) (o7 o8 o9 o10 : Option D) :
    stepB [some N, some DS, some MS, some LT, some (.lst (bs.map nD)), some (.lst Af), some x.d, o7, o8, o9, o10, none, none] = .ok (.next [some N, some DS, some MS, some LT, some (.lst ((bs ++ [x.bit0 bs]).map nD)), some (.lst Af), some x.d, some (.str x.name), o8, o9, o10, none, none]) := by
  have hz' : (bs.map nD).length < SZ := by rw [List.length_map]; exact Nat.lt_trans hz (by decide)
  have s : ∀ a b, oeq (.str a) (.str b) = .ok (.bl (a == b)) := fun _ _ => rfl
  rw [List.map_append]
  unfold stepB
  cases x with
  | zero =>
    have i0 : oin (.str "zero") zz = .ok (.bl true) := rfl
    show _ = Res.ok (Fl.next [_, _, _, _, some (.lst (_ ++ [.int 0])), _, _, _, _, _, _, _, _])
    generalize bs.map nD = L at *
    simp [var, Deed.d, Deed.name, ixt0, s, i0, hz', b2i]
  | ones =>
    have i0 : oin (.str "ones") zz = .ok (.bl true) := rfl
    show _ = Res.ok (Fl.next [_, _, _, _, some (.lst (_ ++ [.int 1])), _, _, _, _, _, _, _, _])
    generalize bs.map nD = L at *
    simp [var, Deed.d, Deed.name, ixt0, s, i0, hz', b2i]
  | inv a =>
    have h := bits_at (bs := bs) hx
    have q := sub1 (at0_01 hb a)
    show _ = Res.ok (Fl.next [_, _, _, _, some (.lst (_ ++ [nD (1 - at0 bs a)])), _, _, _, _, _, _, _, _])
    generalize nD (1 - at0 bs a) = u at *
    generalize nD (at0 bs a) = v at *
    generalize bs.map nD = L at *
    simp [var, Deed.d, Deed.name, ixt0, ixt1, s, h, q, hz']
  | and a b =>
    have h := bits_at (bs := bs) hx.1
    have h' := bits_at (bs := bs) hx.2
    have q := nand (at0 bs a) (at0 bs b)
    rw [and_bit (at0_01 hb a) (at0_01 hb b)] at q
    show _ = Res.ok (Fl.next [_, _, _, _, some (.lst (_ ++ [nD (if at0 bs a + at0 bs b = 2 then 1 else 0)])), _, _, _, _, _, _, _, _])
    generalize nD (if at0 bs a + at0 bs b = 2 then 1 else 0) = u at *
    generalize nD (at0 bs a) = v at *
    generalize nD (at0 bs b) = w at *
    generalize bs.map nD = L at *
    simp [var, Deed.d, Deed.name, ixt0, ixt1, ixt2, s, h, h', q, hz']
  | or a b =>
    have h := bits_at (bs := bs) hx.1
    have h' := bits_at (bs := bs) hx.2
    have q := nor (at0 bs a) (at0 bs b)
    rw [or_bit (at0_01 hb a) (at0_01 hb b)] at q
    show _ = Res.ok (Fl.next [_, _, _, _, some (.lst (_ ++ [nD (if 0 < at0 bs a + at0 bs b then 1 else 0)])), _, _, _, _, _, _, _, _])
    generalize nD (if 0 < at0 bs a + at0 bs b then 1 else 0) = u at *
    generalize nD (at0 bs a) = v at *
    generalize nD (at0 bs b) = w at *
    generalize bs.map nD = L at *
    simp [var, Deed.d, Deed.name, ixt0, ixt1, ixt2, s, h, h', q, hz']
  | xor a b =>
    have h := bits_at (bs := bs) hx.1
    have h' := bits_at (bs := bs) hx.2
    have q := nxor (at0 bs a) (at0 bs b)
    rw [xor_bitN (at0_01 hb a) (at0_01 hb b)] at q
    show _ = Res.ok (Fl.next [_, _, _, _, some (.lst (_ ++ [nD (if at0 bs a = at0 bs b then 0 else 1)])), _, _, _, _, _, _, _, _])
    generalize nD (if at0 bs a = at0 bs b then 0 else 1) = u at *
    generalize nD (at0 bs a) = v at *
    generalize nD (at0 bs b) = w at *
    generalize bs.map nD = L at *
    simp [var, Deed.d, Deed.name, ixt0, ixt1, ixt2, s, h, h', q, hz']
  | _ => cases hm
def Deed.two (bs : List Nat) : Deed → Nat
  | .add _ b => at0 bs b
  | .sub _ b => at0 bs b
  | _ => 0
theorem mark_ok {bs : List Nat} {x : Deed} (hm : x.marked = true) (hc : x.isCount = false) (m : Nat) : m_law_mark [.str x.name, nD m, nD (at0 bs x.one), nD (x.two bs)] = .ok (.tup [nD (x.bit1 bs m), nD (x.next bs m)]) := by
  cases x with
  | shift a => exact mark_shift m (at0 bs a) 0
  | minus a => exact mark_minus m (at0 bs a)
  | add a b => exact mark_add m (at0 bs a) (at0 bs b)
  | sub a b => exact mark_sub m (at0 bs a) (at0 bs b)
  | count p r ps => cases hc
  | _ => cases hm
theorem two_ok {bs : List Nat} {x : Deed} (hm : x.marked = true) (hc : x.isCount = false) (hx : x.ok bs.length) {N DS MS LT : D} {Af : List D} (o7 o8 o10 : Option D) :
    Py.ite (tst (bin ogt (un blen (var 6)) (cst (.int 2)))) (asg (gnm 9) (bin oidx (var 4) (bin oidx (var 6) (cst (.int 2))))) skip [some N, some DS, some MS, some LT, some (.lst (bs.map nD)), some (.lst Af), some x.d, o7, o8, some (.int 0), o10, none, none] = .ok (.next [some N, some DS, some MS, some LT, some (.lst (bs.map nD)), some (.lst Af), some x.d, o7, o8, some (nD (x.two bs)), o10, none, none]) := by
  cases x with
  | shift a => rfl
  | minus a => rfl
  | add a b =>
    have h := bits_at (bs := bs) hx.2
    show _ = Res.ok (Fl.next [_, _, _, _, _, _, _, _, _, some (nD (at0 bs b)), _, _, _])
    generalize nD (at0 bs b) = v at *
    generalize bs.map nD = L at *
    simp [var, Deed.d, ixt2, h]
  | sub a b =>
    have h := bits_at (bs := bs) hx.2
    show _ = Res.ok (Fl.next [_, _, _, _, _, _, _, _, _, some (nD (at0 bs b)), _, _, _])
    generalize nD (at0 bs b) = v at *
    generalize bs.map nD = L at *
    simp [var, Deed.d, ixt2, h]
  | count p r ps => cases hc
  | _ => cases hm
theorem step_carry {bs : List Nat} {x : Deed} (hm : x.marked = true) (hc : x.isCount = false) (hx : x.ok bs.length) {N DS MS LT : D} {Af : List D} {m : Nat} (ha : oidx MS (.int (Af.length : Int)) = .ok (nD m)) (hz : bs.length < 10000) (hzf : Af.length < 10000) (o7 o8 o9 o10 : Option D) :
    ∃ o8' o9' o10', stepB [some N, some DS, some MS, some LT, some (.lst (bs.map nD)), some (.lst Af), some x.d, o7, o8, o9, o10, none, none] = .ok (.next [some N, some DS, some MS, some LT, some (.lst ((bs ++ [x.bit1 bs m]).map nD)), some (.lst (Af ++ [nD (x.next bs m)])), some x.d, some (.str x.name), o8', o9', o10', none, none]) := by
  have hz' : (bs.map nD).length < SZ := by rw [List.length_map]; exact Nat.lt_trans hz (by decide)
  have hzf' : Af.length < SZ := Nat.lt_trans hzf (by decide)
  have hn := deed_name x
  have nn := carry_names hm hc
  have s : ∀ a b, oeq (.str a) (.str b) = .ok (.bl (a == b)) := fun _ _ => rfl
  have iz : oin (.str x.name) zz = .ok (.bl false) := by
    cases x <;> first | rfl | cases hm | cases hc
  have c1 := (carry_one hm hc).1
  have h1 := bits_at (bs := bs) (carry_in hm hc hx).1
  have t2 := two_ok (N := N) (DS := DS) (MS := MS) (LT := LT) (Af := Af) hm hc hx (some (.str x.name)) o8 o10
  have mk := mark_ok (bs := bs) hm hc m
  refine ⟨some (nD (x.next bs m)), some (nD (x.two bs)), some (nD (x.bit1 bs m)), ?_⟩
  rw [List.map_append]
  show _ = Res.ok (Fl.next [_, _, _, _, some (.lst (_ ++ [nD (x.bit1 bs m)])), _, _, _, _, _, _, _, _])
  have hC : stC [some N, some DS, some MS, some LT, some (.lst (bs.map nD)), some (.lst Af), some x.d, some (.str x.name), o8, o9, o10, none, none] = .ok (.next [some N, some DS, some MS, some LT, some (.lst (bs.map nD ++ [nD (x.bit1 bs m)])), some (.lst (Af ++ [nD (x.next bs m)])), some x.d, some (.str x.name), some (nD (x.next bs m)), some (nD (x.two bs)), some (nD (x.bit1 bs m)), none, none]) := by
    unfold stC
    refine (asg_pass (d := .int 0) rfl).trans ?_
    refine (seq_next t2).trans ?_
    have hcl : call m_law_mark (argC (var 7) (argC (bin oidx (var 2) (un blen (var 5))) (argC (bin oidx (var 4) (bin oidx (var 6) (cst (.int 1)))) (argC (var 9) argN)))) [some N, some DS, some MS, some LT, some (.lst (bs.map nD)), some (.lst Af), some x.d, some (.str x.name), o8, some (nD (x.two bs)), o10, none, none] = .ok (.tup [nD (x.bit1 bs m), nD (x.next bs m)]) := by
      generalize nD (x.bit1 bs m) = u at *
      generalize nD (x.next bs m) = v at *
      generalize nD (x.two bs) = w at *
      generalize nD (at0 bs x.one) = y at *
      generalize nD m = mm at *
      generalize x.d = X at *
      generalize bs.map nD = L at *
      generalize nD x.one = ON at *
      simp [var, ha, c1, h1, mk]
    refine (seq_next (e' := [some N, some DS, some MS, some LT, some (.lst (bs.map nD)), some (.lst Af), some x.d, some (.str x.name), some (nD (x.next bs m)), some (nD (x.two bs)), some (nD (x.bit1 bs m)), none, none]) (by rw [asg_eq, hcl]; rfl)).trans ?_
    generalize nD (x.bit1 bs m) = u at *
    generalize nD (x.next bs m) = v at *
    generalize nD (x.two bs) = w at *
    generalize x.d = X at *
    generalize bs.map nD = L at *
    simp [var, hz', hzf']
  have n1 := nn "not" (by simp)
  have n2 := nn "and" (by simp)
  have n3 := nn "or" (by simp)
  have n4 := nn "xor" (by simp)
  have n5 := nn "count" (by simp)
  unfold stepB
  refine (asg_pass hn).trans ?_
  show Py.ite _ _ _ [some N, some DS, some MS, some LT, some (.lst (bs.map nD)), some (.lst Af), some x.d, some (.str x.name), o8, o9, o10, none, none] = _
  generalize nD (x.bit1 bs m) = u at *
  generalize nD (x.next bs m) = v at *
  generalize nD (x.two bs) = w at *
  generalize x.d = X at *
  generalize bs.map nD = L at *
  generalize x.name = NM at *
  simp [var, s, n1, n2, n3, n4, n5, iz, hC]
theorem step_count {bs : List Nat} {p r : Nat} {ps : List Nat} (hx : (Deed.count p r ps).ok bs.length) {N DS MS LT : D} {Af : List D} {m : Nat} (ha : oidx MS (.int (Af.length : Int)) = .ok (nD m)) (hz : bs.length < 10000) (hzf : Af.length < 10000) (o7 o8 o9 o10 : Option D) :
    ∃ o8', stepB [some N, some DS, some MS, some LT, some (.lst (bs.map nD)), some (.lst Af), some (Deed.count p r ps).d, o7, o8, o9, o10, none, none] = .ok (.next [some N, some DS, some MS, some LT, some (.lst ((bs ++ [(Deed.count p r ps).bit1 bs m]).map nD)), some (.lst (Af ++ [nD ((Deed.count p r ps).next bs m)])), some (Deed.count p r ps).d, some (.str "count"), o8', o9, o10, none, none]) := by
  obtain ⟨hp, hr, h1, h4, hps⟩ := hx
  have hz' : (bs.map nD).length < SZ := by rw [List.length_map]; exact Nat.lt_trans hz (by decide)
  have hz2 : (bs.map nD ++ [nD (if m = r then 1 else 0)]).length < SZ := by rw [List.length_append, List.length_map]; exact Nat.lt_of_le_of_lt (show bs.length + 1 ≤ 10000 by omega) (by decide)
  have hzf' : Af.length < SZ := Nat.lt_trans hzf (by decide)
  have s : ∀ a b, oeq (.str a) (.str b) = .ok (.bl (a == b)) := fun _ _ => rfl
  have iz : oin (.str "count") zz = .ok (.bl false) := rfl
  have em := nat_eq m r
  have bm := bint_d (m = r)
  have tb : tot (bs ++ [if m = r then 1 else 0]) ps = tot bs ps := by
    unfold tot
    congr 1
    refine List.map_congr_left fun a ha => ?_
    unfold at0
    rw [List.getD_eq_getElem?_getD, List.getD_eq_getElem?_getD, List.getElem?_append_left (hps a ha)]
  have lc : lcE (iseq (bin oidx (var 6) (cst (.int 3)))) [12] (gnm 12) yes (bin oidx (var 4) (var 12)) [some N, some DS, some MS, some LT, some (.lst (bs.map nD ++ [nD (if m = r then 1 else 0)])), some (.lst Af), some (Deed.count p r ps).d, some (.str "count"), some (nD m), o9, o10, none, none] = .ok (.lst (ps.map fun a => nD (at0 (bs ++ [if m = r then 1 else 0]) a))) := by
    refine lc_mapI (ys := ps) (k := nD) ?_ (le_sz (by omega)) fun a ha => ⟨_, rfl, ?_⟩
    · simp [var, Deed.d, ixt3]
    · have := bits_at (bs := bs ++ [if m = r then 1 else 0]) (a := a) (by rw [List.length_append]; have := hps a ha; simp; omega)
      rw [List.map_append, List.map_singleton] at this
      exact this
  have sm := nsum (at0 (bs ++ [if m = r then 1 else 0])) ps
  change bsum _ = .ok (nD (tot (bs ++ [if m = r then 1 else 0]) ps)) at sm
  rw [tb] at sm
  have ad := nadd m (tot bs ps)
  have md := nmod (m + tot bs ps) (p := p) (by rcases hp with rfl | rfl | rfl <;> omega)
  have bn := bint_n (m + tot bs ps)
  refine ⟨some (nD m), ?_⟩
  rw [List.map_append]
  show _ = Res.ok (Fl.next [_, _, _, _, some (.lst (_ ++ [nD (if m = r then 1 else 0)])), some (.lst (_ ++ [nD ((m + tot bs ps) % p)])), _, _, _, _, _, _, _])
  have hN : stN [some N, some DS, some MS, some LT, some (.lst (bs.map nD)), some (.lst Af), some (Deed.count p r ps).d, some (.str "count"), o8, o9, o10, none, none] = .ok (.next [some N, some DS, some MS, some LT, some (.lst (bs.map nD ++ [nD (if m = r then 1 else 0)])), some (.lst (Af ++ [nD ((m + tot bs ps) % p)])), some (Deed.count p r ps).d, some (.str "count"), some (nD m), o9, o10, none, none]) := by
    unfold stN
    refine (asg_pass (d := nD m) (by simp [var, ha])).trans ?_
    refine (seq_next (e' := [some N, some DS, some MS, some LT, some (.lst (bs.map nD ++ [nD (if m = r then 1 else 0)])), some (.lst Af), some (Deed.count p r ps).d, some (.str "count"), some (nD m), o9, o10, none, none]) ?_).trans ?_
    · generalize nD (if m = r then 1 else 0) = u at *
      generalize nD m = mm at *
      generalize bs.map nD = L at *
      generalize decide (m = r) = DD at *
      simp [var, Deed.d, ixt2, em, bm, hz']
    · rw [app_eq, var_eq (d := .lst Af) rfl, bind_ok]
      show (bin omod _ _ _ >>= _) = _
      have e : bin omod (un bint (bin oadd (var 8) (un bsum (lcE (iseq (bin oidx (var 6) (cst (.int 3)))) [12] (gnm 12) yes (bin oidx (var 4) (var 12)))))) (bin oidx (var 6) (cst (.int 1))) [some N, some DS, some MS, some LT, some (.lst (bs.map nD ++ [nD (if m = r then 1 else 0)])), some (.lst Af), some (Deed.count p r ps).d, some (.str "count"), some (nD m), o9, o10, none, none] = .ok (nD ((m + tot bs ps) % p)) := by
        rw [bin_eq, un_eq, bin_eq, un_eq, lc, bind_ok, sm]
        generalize nD ((m + tot bs ps) % p) = u at *
        generalize nD (m + tot bs ps) = v at *
        generalize nD (tot bs ps) = w at *
        generalize nD m = mm at *
        simp [var, Deed.d, ixt1, ad, bn, md]
      rw [e, bind_ok, if_pos hzf']
      rfl
  unfold stepB
  refine (asg_pass (d := .str "count") rfl).trans ?_
  show Py.ite _ _ _ [some N, some DS, some MS, some LT, some (.lst (bs.map nD)), some (.lst Af), some (Deed.count p r ps).d, some (.str "count"), o8, o9, o10, none, none] = _
  generalize (Deed.count p r ps).d = X at *
  generalize bs.map nD = L at *
  generalize nD (if m = r then 1 else 0) = u at *
  simp [var, s, iz, hN]
end Py.U
namespace Py.U
open PySem
theorem law_loop {n : Nat} {ms : List Nat} {xs : List Deed} {bs : List Nat} {N LT DS : D} (hb : Bits bs) (hl : bs.length = n) (hf : Fit ms (tops xs)) (hr : Row n xs) (hz : n + xs.length ≤ 1000) :
    ∃ e', forL (forB (gnm 6) stepB) (xs.map Deed.d) [some N, some DS, some (.tup (ms.map nD)), some LT, some (.lst (bs.map nD)), some (.lst []), none, none, none, none, none, none, none] = .ok (.next e') ∧
      ∃ o6 o7 o8 o9 o10, At n ms xs xs.length (runD ms bs xs) ∧ e' = [some N, some DS, some (.tup (ms.map nD)), some LT, some (.lst ((runD ms bs xs).1.map nD)), some (.lst ((runD ms bs xs).2.map nD)), o6, o7, o8, o9, o10, none, none] := by
  have q := forL_inv (b := forB (gnm 6) stepB) (xs := xs.map Deed.d) (e := [some N, some DS, some (.tup (ms.map nD)), some LT, some (.lst (bs.map nD)), some (.lst []), none, none, none, none, none, none, none])
    (fun k e => ∃ o6 o7 o8 o9 o10, At n ms xs k ((xs.take k).foldl (stp ms) (bs, [])) ∧ e = [some N, some DS, some (.tup (ms.map nD)), some LT, some (.lst (((xs.take k).foldl (stp ms) (bs, [])).1.map nD)), some (.lst (((xs.take k).foldl (stp ms) (bs, [])).2.map nD)), o6, o7, o8, o9, o10, none, none]) 0
    ⟨none, none, none, none, none, ⟨hb, by simpa using hl, trivial, by simp [← hl]⟩, rfl⟩ (by
      rintro k e hk ⟨o6, o7, o8, o9, o10, A, rfl⟩
      have hk' : k < xs.length := by simpa using hk
      rw [Nat.zero_add] at A ⊢
      have ht : (xs.take (k + 1)).foldl (stp ms) (bs, []) = stp ms ((xs.take k).foldl (stp ms) (bs, [])) xs[k] := by
        rw [List.take_add_one, List.foldl_append]
        simp [hk']
      have A2 := A.step hf hr hk'
      rw [ht]
      generalize (xs.take k).foldl (stp ms) (bs, []) = s at *
      have hx := hr k hk'
      rw [← A.len] at hx
      have hfl := A.fit.len
      have htl : (tops (xs.take k)).length ≤ k := by
        unfold tops
        rw [List.length_map]
        exact Nat.le_trans (List.length_filter_le _ _) (by rw [List.length_take]; omega)
      have z1 : s.1.length < 10000 := by rw [A.len]; omega
      have z2 : (s.2.map nD).length < 10000 := by rw [List.length_map, hfl]; omega
      rw [List.getElem_map]
      show ∃ e', stepB [some N, some DS, some (.tup (ms.map nD)), some LT, some (.lst (s.1.map nD)), some (.lst (s.2.map nD)), some xs[k].d, o7, o8, o9, o10, none, none] = .ok (.next e') ∧ _
      cases hm : xs[k].marked with
      | false =>
        have e : stp ms s xs[k] = (s.1 ++ [xs[k].bit0 s.1], s.2) := stp_u hm
        rw [e] at A2 ⊢
        exact ⟨_, step_plain A.bits hm hx z1 o7 o8 o9 o10, _, _, _, _, _, A2, rfl⟩
      | true =>
        have hj : s.2.length < ms.length := by
          have := tops_at hk' hm
          have h2 : (tops (xs.take k)).length < (tops xs).length := by
            rcases Nat.lt_or_ge (tops (xs.take k)).length (tops xs).length with h | h
            · exact h
            · rw [List.getElem?_eq_none h] at this
              cases this
          rw [hf.len, hfl]
          exact h2
        have ha : oidx (.tup (ms.map nD)) (.int ((s.2.map nD).length : Int)) = .ok (nD (ms.getD s.2.length 0)) := by
          refine oidx_t (k := (s.2.map nD).length) ?_
          simp [hj]
        have e := stp_m (ms := ms) (s := s) hm
        rw [e] at A2 ⊢
        have e2 : (s.2 ++ [xs[k].next s.1 (ms.getD s.2.length 0)]).map nD = s.2.map nD ++ [nD (xs[k].next s.1 (ms.getD s.2.length 0))] := by rw [List.map_append]; rfl
        cases hc : xs[k].isCount with
        | false =>
          obtain ⟨o8', o9', o10', q⟩ := step_carry (N := N) (DS := DS) (LT := LT) hm hc hx ha z1 z2 o7 o8 o9 o10
          rw [← e2] at q
          exact ⟨_, q, _, _, _, _, _, A2, rfl⟩
        | true =>
          rcases deed_cases xs[k] with h | h | ⟨p, r, ps, h⟩
          · rw [hm] at h; cases h
          · rw [hc] at h; cases h.2
          · rw [h] at hx A2 ⊢
            rw [h] at e2
            obtain ⟨o8', q⟩ := step_count (N := N) (DS := DS) (LT := LT) hx ha z1 z2 o7 o8 o9 o10
            rw [← e2] at q
            exact ⟨_, q, _, _, _, _, _, A2, rfl⟩)
  rw [List.length_map, Nat.zero_add, List.take_length] at q
  exact q
theorem law_step_ok {n : Nat} {ms : List Nat} {xs : List Deed} (letter : Nat) (hf : Fit ms (tops xs)) (hr : Row n xs) (hz : n + xs.length ≤ 1000) :
    m_law_step [nD n, .lst (xs.map Deed.d), rD ms, nD letter] = .ok (.tup [.lst ((runD ms (lb n letter) xs).1.map nD), rD (nx1 n xs ms letter)]) := by
  obtain ⟨e', h1, o6, o7, o8, o9, o10, A, rfl⟩ := law_loop (N := nD n) (LT := nD letter) (DS := .lst (xs.map Deed.d)) (lb_bits n letter) (lb_len n letter) hf hr hz
  have hr0 : irng1 (var 0) [some (nD n), some (.lst (xs.map Deed.d)), some (.tup (ms.map nD)), some (nD letter), none, none, none, none, none, none, none, none, none] = .ok ((List.range n).map fun i => .int ((i : Nat) : Int)) := irng1_nat (by simp [var, nD]) (rng_lt (by omega))
  have hc : lcE (irng1 (var 0)) [11] (gnm 11) yes (bin oand (bin oshr (var 3) (var 11)) (cst (.int 1))) [some (nD n), some (.lst (xs.map Deed.d)), some (.tup (ms.map nD)), some (nD letter), none, none, none, none, none, none, none, none, none] = .ok (.lst ((lb n letter).map nD)) := by
    unfold lb
    rw [List.map_map]
    refine lc_mapI (k := fun i => .int ((i : Nat) : Int)) hr0 (by rw [List.length_range]; exact le_sz (by omega)) fun i _ => ?_
    have b1 := bitN1 letter i
    have b2 := bitN2 (letter / 2 ^ i)
    show ∃ e1, _ ∧ _ = Res.ok (nD (letter / 2 ^ i % 2))
    generalize nD (letter / 2 ^ i % 2) = u at *
    generalize nD (letter / 2 ^ i) = v at *
    change oshr (nD letter) (.int (i : Int)) = _ at b1
    generalize (i : Int) = z at *
    generalize nD letter = l at *
    exact ⟨_, rfl, by simp only [wipe]; simp [var, b1, b2]⟩
  show m_law_step [nD n, .lst (xs.map Deed.d), .tup (ms.map nD), nD letter] = .ok (.tup [.lst ((runD ms (lb n letter) xs).1.map nD), .tup ((runD ms (lb n letter) xs).2.map nD)])
  clear A
  unfold m_law_step
  rw [fn4]
  show done (seq (asg (gnm 4) (lcE (irng1 (var 0)) [11] (gnm 11) yes (bin oand (bin oshr (var 3) (var 11)) (cst (.int 1)))))
    (seq (asg (gnm 5) (lstE argN)) (seq (for_ (iseq (var 1)) (gnm 6) stepB) (ret (tupE (argC (var 4) (argC (un btuple (var 5)) argN)))))) [some (nD n), some (.lst (xs.map Deed.d)), some (.tup (ms.map nD)), some (nD letter), none, none, none, none, none, none, none, none, none]) = _
  generalize (runD ms (lb n letter) xs).1.map nD = B at *
  generalize (runD ms (lb n letter) xs).2.map nD = Af at *
  generalize (lb n letter).map nD = L at *
  generalize hDS : xs.map Deed.d = DS at *
  simp [hc, h1, var]
/-! ### weights -/
def Deed.wt (x : Deed) : Nat := if x.marked then x.top else 1
theorem weight_ok (x : Deed) : m_law_weight [x.d] = .ok (nD x.wt) := by
  cases x with
  | count p r ps =>
    show m_law_weight [.tup [.str "count", nD p, nD r, .tup (ps.map nD)]] = .ok (nD p)
    rfl
  | _ => rfl
theorem wt_gt {n : Nat} {x : Deed} (h : x.ok n) : decide (1 < x.wt) = x.marked := by
  unfold Deed.wt
  cases x with
  | count p r ps =>
    obtain ⟨hp, _⟩ := h
    show decide (1 < p) = true
    rcases hp with rfl | rfl | rfl <;> rfl
  | _ => rfl
theorem prd_wt : ∀ xs : List Deed, prd (tops xs) = (xs.map Deed.wt).foldr (· * ·) 1
  | [] => rfl
  | x :: xs => by
    have ih := prd_wt xs
    rw [List.map_cons, List.foldr_cons, ← ih]
    unfold tops Deed.wt
    rw [List.filter_cons]
    cases h : x.marked
    · rw [if_neg (by decide), if_neg (by decide), Nat.one_mul]
    · rw [if_pos rfl, if_pos rfl, List.map_cons]
      rfl
/-- [0 for deed in deeds if it has a mark] -/
theorem zeros_marks {n : Nat} {xs : List Deed} (hr : Row n xs) (hz : xs.length ≤ 1000) {e : Env} (hi : iseq (var 1) e = .ok (xs.map Deed.d)) (hl : e.length = 13) :
    un btuple (lcE (iseq (var 1)) [12] (gnm 12) (tst (bin ogt (call m_law_weight (argC (var 12) argN)) (cst (.int 1)))) (cst (.int 0))) e = .ok (rD (zer xs)) := by
  have q : lcE (iseq (var 1)) [12] (gnm 12) (tst (bin ogt (call m_law_weight (argC (var 12) argN)) (cst (.int 1)))) (cst (.int 0)) e = .ok (.lst ((zer xs).map nD)) := by
    have hw : ((wipe e [12]).length) = 13 := by simp [wipe, hl]
    have key : ∀ ys : List Deed, (∀ y ∈ ys, ∃ k, y.ok k) → compL (compF [12] (gnm 12) (tst (bin ogt (call m_law_weight (argC (var 12) argN)) (cst (.int 1)))) (cst (.int 0)) e) (ys.map Deed.d) = .ok ((List.replicate (tops ys).length 0).map nD) := by
      intro ys
      induction ys with
      | nil => intro _; rfl
      | cons y ys ih =>
        intro hy
        obtain ⟨k, hk⟩ := hy y List.mem_cons_self
        have f1 : compF [12] (gnm 12) (tst (bin ogt (call m_law_weight (argC (var 12) argN)) (cst (.int 1)))) (cst (.int 0)) e y.d = .ok (if y.marked then some (.int 0) else none) := by
          unfold compF
          rw [gnm_eq]
          show (lift (some _) >>= _) = _
          rw [lift_some, bind_ok, tst_eq, bin_eq, call_eq, argC_eq, var_eq (d := y.d) (by rw [List.getElem?_set_self (by omega)]), bind_ok]
          show (((m_law_weight [y.d]) >>= fun x => ogt x (.int 1)) >>= truthy >>= _) = _
          rw [weight_ok, bind_ok]
          have h3 : ogt (nD y.wt) (.int 1) = .ok (.bl y.marked) := by
            rw [← wt_gt hk]
            unfold nD
            rw [ogt_ii]
            congr 2
            exact decide_eq_decide.mpr (by omega)
          rw [h3, bind_ok, truthy_b, bind_ok]
          cases y.marked <;> rfl
        rw [List.map_cons]
        unfold compL
        rw [f1, bind_ok, ih fun z hz => hy z (List.mem_cons_of_mem _ hz), bind_ok]
        unfold tops
        rw [List.filter_cons]
        cases hm : y.marked
        · rfl
        · rfl
    unfold lcE
    rw [hi, bind_ok, key xs fun y hy => by
      obtain ⟨k, hk, rfl⟩ := List.mem_iff_getElem.mp hy
      exact ⟨_, hr k hk⟩]
    rw [noexc_ok, bind_ok, List.length_map]
    exact chk_ok (le_sz hz)
  rw [un_eq, q]
  rfl
end Py.U
namespace Py.U
open PySem
/-! ### the law's own walk over all marks -/
def llI : SM := (seq (asg (gtup [(gnm 10), (gnm 11)]) (call m_law_step (argC (var 0) (argC (var 1) (argC (bin oidx (var 4) (var 7)) (argC (var 9) argN))))))
  (seq (Py.ite (tst (bin onotin (var 11) (var 5))) (seq (setL 5 (var 11) (un blen (var 4)))
  (app 4 (var 11))) skip)
  (Py.ite (tst (bin oeq (bin oidx (var 10) (var 2)) (cst (.int 0)))) (app 8 (tupE (argC (var 9) (argC (bin oidx (var 5) (var 11)) argN)))) skip)))
def llB : SM := (Py.ite (tst (bin olt (var 7) (un blen (var 4)))) (seq (asg (gnm 8) (lstE argN))
  (seq (for_ (irng1 (bin oshl (cst (.int 1)) (var 0))) (gnm 9) llI)
  (app 6 (var 8)))) skip)
section
variable {n out : Nat} {xs : List Deed}
def lE (n : Nat) (xs : List Deed) (out : Nat) (RM TB : D) (f : List (List Nat)) (a : Nat) (o8 o9 o10 o11 : Option D) : Env := [some (nD n), some (.lst (xs.map Deed.d)), some (nD out), some RM, some (.lst (f.map rD)), some (.dic true (tabF rD 0 f)), some TB, some (nD a), o8, o9, o10, o11, none]
theorem ll_step (hr : Row n xs) (hz : n + xs.length ≤ 1000) (ho : out < n + xs.length) {RM TB : D} {f : List (List Nat)} {a l : Nat} {p : List Nat} {ln : List (Nat × Nat)} (hp : f[a]? = some p) (hf : Fit p (tops xs)) (hfl : f.length < 10000) (hl : ln.length < 10000) (o9 o10 o11 : Option D) :
    ∃ o10' o11', forB (gnm 9) llI (nD l) (lE n xs out RM TB f a (some (lnD ln)) o9 o10 o11) = .ok (.next (lE n xs out RM TB (addU f (nx1 n xs p l)) a (some (lnD (if ot1 n xs out p l = 0 then ln ++ [(l, ixU (addU f (nx1 n xs p l)) (nx1 n xs p l))] else ln))) (some (nD l)) o10' o11')) := by
  have st := law_step_ok l hf hr hz
  have e0 : oidx (.lst (f.map rD)) (nD a) = .ok (rD p) := oidx_l (by rw [List.getElem?_map, hp]; rfl)
  have bl : (runD p (lb n l) xs).1.length = n + xs.length := (runD_at l hf hr hz).len
  have eb : oidx (.lst ((runD p (lb n l) xs).1.map nD)) (nD out) = .ok (nD (ot1 n xs out p l)) := bits_at (by omega)
  have ez := nat_eq (ot1 n xs out p l) 0
  generalize hq : nx1 n xs p l = q at *
  generalize hb : ot1 n xs out p l = b at *
  generalize hB : (runD p (lb n l) xs).1.map nD = BS at *
  refine ⟨some (.lst BS), some (rD q), ?_⟩
  show llI [some (nD n), some (.lst (xs.map Deed.d)), some (nD out), some RM, some (.lst (f.map rD)), some (.dic true (tabF rD 0 f)), some TB, some (nD a), some (lnD ln), some (nD l), o10, o11, none] = _
  unfold llI lE
  refine (seq_next (e' := [some (nD n), some (.lst (xs.map Deed.d)), some (nD out), some RM, some (.lst (f.map rD)), some (.dic true (tabF rD 0 f)), some TB, some (nD a), some (lnD ln), some (nD l), some (.lst BS), some (rD q), none]) ?_).trans ?_
  · have cc : call m_law_step (argC (var 0) (argC (var 1) (argC (bin oidx (var 4) (var 7)) (argC (var 9) argN)))) [some (nD n), some (.lst (xs.map Deed.d)), some (nD out), some RM, some (.lst (f.map rD)), some (.dic true (tabF rD 0 f)), some TB, some (nD a), some (lnD ln), some (nD l), o10, o11, none] = .ok (.tup [.lst BS, rD q]) := by
      generalize xs.map Deed.d = DS at *
      generalize Py.D.dic true (tabF rD 0 f) = T at *
      generalize f.map rD = FM at *
      generalize rD p = PP at *
      generalize rD q = Q at *
      generalize nD a = A at *
      generalize nD l = LL at *
      generalize nD n = N at *
      generalize nD out = OU at *
      simp [var, e0, st]
    rw [asg_eq, cc]
    rfl
  have hk := key_rD.ok q
  have f1 := find_U q f
  have z4 : (f.map rD).length < SZ := by rw [List.length_map]; exact Nat.lt_of_lt_of_le hfl (by decide)
  have z8 : (ln.map pD).length < SZ := by rw [List.length_map]; exact Nat.lt_of_lt_of_le hl (by decide)
  refine (seq_next (e' := [some (nD n), some (.lst (xs.map Deed.d)), some (nD out), some RM, some (.lst ((addU f q).map rD)), some (.dic true (tabF rD 0 (addU f q))), some TB, some (nD a), some (lnD ln), some (nD l), some (.lst BS), some (rD q), none]) ?_).trans ?_
  · by_cases hm : q ∈ f
    · rw [if_pos hm] at f1
      have n1 : onotin (rD q) (.dic true (tabF rD 0 f)) = .ok (.bl false) := by rw [onotin_dic hk, f1]; rfl
      have e : addU f q = f := if_pos hm
      rw [e]
      generalize Py.D.dic true (tabF rD 0 f) = T at *
      generalize f.map rD = FM at *
      generalize rD q = Q at *
      simp [var, n1]
    · rw [if_neg hm] at f1
      have n1 : onotin (rD q) (.dic true (tabF rD 0 f)) = .ok (.bl true) := by rw [onotin_dic hk, f1]; rfl
      have p1 := put_tabF key_rD q f 0 hm
      rw [Nat.zero_add] at p1
      have e : addU f q = f ++ [q] := if_neg hm
      have b1 := lenN f rD
      have hz' : (tabF rD 0 f).length < SZ := by rw [tabF_len]; exact Nat.lt_of_lt_of_le hfl (by decide)
      have sl : setL 5 (var 11) (un blen (var 4)) [some (nD n), some (.lst (xs.map Deed.d)), some (nD out), some RM, some (.lst (f.map rD)), some (.dic true (tabF rD 0 f)), some TB, some (nD a), some (lnD ln), some (nD l), some (.lst BS), some (rD q), none] = .ok (.next [some (nD n), some (.lst (xs.map Deed.d)), some (nD out), some RM, some (.lst (f.map rD)), some (.dic true (tabF rD 0 (f ++ [q]))), some TB, some (nD a), some (lnD ln), some (nD l), some (.lst BS), some (rD q), none]) := by
        rw [setL_dic (t := true) (kvs := tabF rD 0 f) (d := nD f.length) (k := rD q) rfl (by simp [var, b1]) rfl hk hz', p1]
        rfl
      rw [e, List.map_append, List.map_singleton]
      generalize Py.D.dic true (tabF rD 0 (f ++ [q])) = T2 at *
      generalize Py.D.dic true (tabF rD 0 f) = T at *
      generalize f.map rD = FM at *
      generalize rD q = Q at *
      simp [var, n1, sl, z4]
  · have f2 := find_U q (addU f q)
    rw [if_pos (mem_addU.mpr (.inr rfl))] at f2
    have g1 := oidx_dic (t := true) hk f2
    have pe : pD (l, ixU (addU f q) q) = .tup [nD l, nD (ixU (addU f q) q)] := rfl
    have ez' : oeq (nD b) (.int 0) = .ok (.bl (decide (b = 0))) := ez
    by_cases h0 : b = 0
    · rw [if_pos h0]
      rw [decide_eq_true h0] at ez'
      unfold lnD
      rw [List.map_append, List.map_singleton, pe]
      generalize Py.D.dic true (tabF rD 0 (addU f q)) = T at *
      generalize (addU f q).map rD = FM at *
      generalize rD q = Q at *
      generalize ln.map pD = LN at *
      generalize nD (ixU (addU f q) q) = IX at *
      generalize nD l = LL at *
      generalize nD b = BB at *
      generalize nD out = OU at *
      simp [var, eb, ez', g1, z8]
    · rw [if_neg h0]
      rw [decide_eq_false h0] at ez'
      generalize Py.D.dic true (tabF rD 0 (addU f q)) = T at *
      generalize (addU f q).map rD = FM at *
      generalize rD q = Q at *
      generalize nD l = LL at *
      generalize nD b = BB at *
      generalize nD out = OU at *
      simp [var, eb, ez']
theorem ll_inner (hr : Row n xs) (hz : n + xs.length ≤ 1000) (ho : out < n + xs.length) {RM TB : D} {a : Nat} {p : List Nat} (hf : Fit p (tops xs)) : ∀ (ls : List Nat) (f : List (List Nat)) (ln : List (Nat × Nat)) (o9 o10 o11 : Option D), f[a]? = some p → f.length + ls.length < 10000 → ln.length + ls.length < 10000 →
    ∃ o9' o10' o11', forL (forB (gnm 9) llI) (ls.map nD) (lE n xs out RM TB f a (some (lnD ln)) o9 o10 o11) = .ok (.next (lE n xs out RM TB ((ls.map (nx1 n xs p)).foldl addU f) a (some (lnD (ln ++ (ls.filter fun l => ot1 n xs out p l == 0).map fun l => (l, ixU ((ls.map (nx1 n xs p)).foldl addU f) (nx1 n xs p l))))) o9' o10' o11'))
  | [], f, ln, o9, o10, o11, _, _, _ => ⟨o9, o10, o11, by simp [forL]⟩
  | l :: ls, f, ln, o9, o10, o11, hp, h1, h2 => by
    simp only [List.length_cons] at h1 h2
    obtain ⟨o10', o11', q⟩ := ll_step hr hz ho (RM := RM) (TB := TB) (l := l) hp hf (ln := ln) (by omega) (by omega) o9 o10 o11
    have al := addU_len f (nx1 n xs p l)
    obtain ⟨r, hr1⟩ := addU_pre f (nx1 n xs p l)
    have hp' : (addU f (nx1 n xs p l))[a]? = some p := by
      have ha : a < f.length := by
        by_cases c : a < f.length
        · exact c
        · rw [List.getElem?_eq_none (by omega)] at hp
          cases hp
      rw [hr1, List.getElem?_append_left ha]
      exact hp
    obtain ⟨o9'', o10'', o11'', q2⟩ := ll_inner hr hz ho (RM := RM) (TB := TB) hf ls (addU f (nx1 n xs p l)) (if ot1 n xs out p l = 0 then ln ++ [(l, ixU (addU f (nx1 n xs p l)) (nx1 n xs p l))] else ln) (some (nD l)) o10' o11' hp' (by omega) (by
      split
      · rw [List.length_append]; simp; omega
      · omega)
    refine ⟨o9'', o10'', o11'', ?_⟩
    rw [List.map_cons, forL, q, bind_ok]
    refine q2.trans ?_
    rw [List.map_cons, List.foldl_cons, List.filter_cons]
    congr 5
    by_cases hb : ot1 n xs out p l = 0
    · have hb' : (ot1 n xs out p l == 0) = true := by rw [hb]; rfl
      rw [if_pos hb, if_pos hb', List.map_cons, List.append_assoc, List.singleton_append]
      obtain ⟨r2, hr2⟩ := foldU_pre (ls.map (nx1 n xs p)) (addU f (nx1 n xs p l))
      rw [hr2, ixU_app (mem_addU.mpr (.inr rfl))]
    · have hb' : ¬ (ot1 n xs out p l == 0) = true := by simpa using hb
      rw [if_neg hb, if_neg hb']
def sucA (n : Nat) (xs : List Deed) (p : List Nat) : List (List Nat) := (List.range (2 ^ n)).map (nx1 n xs p)
theorem suc_sub {p q : List Nat} (h : q ∈ sucZ (ldK n xs out) p) : q ∈ sucA n xs p := by
  rw [suc_zs] at h
  obtain ⟨l, hl, rfl⟩ := List.mem_map.mp h
  exact List.mem_map.mpr ⟨l, (List.mem_filter.mp hl).1, rfl⟩
theorem sucA_fit (hr : Row n xs) (hz : n + xs.length ≤ 1000) : ∀ p, Fit p (tops xs) → ∀ q ∈ sucA n xs p, Fit q (tops xs) := fun p h q hq => by
  obtain ⟨l, _, rfl⟩ := List.mem_map.mp hq
  exact nx1_fit hr hz h l
theorem st_more {α : Type} [DecidableEq α] {ld : α → List (Nat × α)} {f r : List α} {a : Nat} (hc : CldU (sucZ ld) f a) {p : α} (hp : f[a]? = some p) : stA ld (f ++ r) (a + 1) = stA ld f a ++ [lnD (lnZ ld (f ++ r) p)] := by
  have ha : a < f.length := by
    by_cases c : a < f.length
    · exact c
    · rw [List.getElem?_eq_none (by omega)] at hp
      cases hp
  have e1 : (f ++ r).take (a + 1) = f.take a ++ [p] := by
    rw [List.take_append_of_le_length (by omega), List.take_add_one, hp]
    rfl
  unfold stA
  rw [e1, List.map_append, List.map_singleton]
  congr 1
  refine List.map_congr_left fun x hx => ?_
  congr 1
  unfold lnZ
  refine List.map_congr_left fun q hq => ?_
  obtain ⟨i, hi, rfl⟩ := List.mem_iff_getElem.mp hx
  rw [List.length_take] at hi
  have := hc i (f.take a)[i] (by omega) (by rw [List.getElem_take, List.getElem?_eq_getElem (by omega)]) q.2 (List.mem_map.mpr ⟨q, hq, rfl⟩)
  rw [idx_app this]
theorem ll_body (h1 : 1 ≤ n) (h3 : n ≤ 3) (hr : Row n xs) (hz : n + xs.length ≤ 1000) (ho : out < n + xs.length) {RM : D} {f : List (List Nat)} {a : Nat} {p : List Nat} (hp : f[a]? = some p) (hf : Fit p (tops xs)) (hc : CldU (sucA n xs) f a) (hl : f.length ≤ 1000) (o7 o8 o9 o10 o11 : Option D) :
    ∃ o8' o9' o10' o11', forB (gnm 7) llB (nD a) [some (nD n), some (.lst (xs.map Deed.d)), some (nD out), some RM, some (.lst (f.map rD)), some (.dic true (tabF rD 0 f)), some (.lst (stA (ldK n xs out) f a)), o7, o8, o9, o10, o11, none] = .ok (.next (lE n xs out RM (.lst (stA (ldK n xs out) ((sucA n xs p).foldl addU f) (a + 1))) ((sucA n xs p).foldl addU f) a o8' o9' o10' o11')) := by
  have p8 := Nat.pow_le_pow_right (n := 2) (by decide) h3
  have ha : a < f.length := by
    by_cases c : a < f.length
    · exact c
    · rw [List.getElem?_eq_none (by omega)] at hp
      cases hp
  obtain ⟨o9', o10', o11', q⟩ := ll_inner hr hz ho (RM := RM) (TB := .lst (stA (ldK n xs out) f a)) (a := a) hf (List.range (2 ^ n)) f [] o9 o10 o11 hp (by simp; omega) (by simp; omega)
  obtain ⟨r, hr2⟩ := foldU_pre (sucA n xs p) f
  have cz : CldU (sucZ (ldK n xs out)) f a := fun i x hi hx q hq => hc i x hi hx q (suc_sub hq)
  have sn := st_more (r := r) cz hp
  rw [← hr2] at sn
  rw [List.nil_append] at q
  have q' : forL (forB (gnm 9) llI) ((List.range (2 ^ n)).map nD) (lE n xs out RM (.lst (stA (ldK n xs out) f a)) f a (some (lnD [])) o9 o10 o11) = .ok (.next (lE n xs out RM (.lst (stA (ldK n xs out) f a)) ((sucA n xs p).foldl addU f) a (some (lnD (lnZ (ldK n xs out) ((sucA n xs p).foldl addU f) p))) o9' o10' o11')) := by
    rw [ln_zs]
    exact q
  have tl := lenN f rD
  have ol : olt (nD a) (nD f.length) = .ok (.bl true) := by rw [oltN, decide_eq_true ha]
  have sh : oshl (.int 1) (nD n) = .ok (nD (2 ^ n)) := shl_nD (by omega)
  have z6 : (stA (ldK n xs out) f a).length < SZ := by rw [st_len _ (by omega)]; exact Nat.lt_of_le_of_lt (show a ≤ 1000 by omega) (by decide)
  refine ⟨some (lnD (lnZ (ldK n xs out) ((sucA n xs p).foldl addU f) p)), o9', o10', o11', ?_⟩
  rw [sn]
  show llB [some (nD n), some (.lst (xs.map Deed.d)), some (nD out), some RM, some (.lst (f.map rD)), some (.dic true (tabF rD 0 f)), some (.lst (stA (ldK n xs out) f a)), some (nD a), o8, o9, o10, o11, none] = _
  unfold llB
  rw [ite_eq]
  have ct : tst (bin olt (var 7) (un blen (var 4))) [some (nD n), some (.lst (xs.map Deed.d)), some (nD out), some RM, some (.lst (f.map rD)), some (.dic true (tabF rD 0 f)), some (.lst (stA (ldK n xs out) f a)), some (nD a), o8, o9, o10, o11, none] = .ok true := by
    generalize f.map rD = FM at *
    generalize nD a = A at *
    generalize nD f.length = FL at *
    simp [var, tl, ol]
  rw [ct, bind_ok, if_pos rfl]
  refine (asg_pass (d := .lst []) rfl).trans ?_
  refine (for_pass (irng_n (n := 2 ^ n) ?_ (by omega)) q').trans ?_
  · show (oshl (.int 1) (nD n)) = _
    exact sh
  unfold lE
  rw [app_eq, var_eq (d := .lst (stA (ldK n xs out) f a)) rfl, bind_ok]
  show (var 8 _ >>= _) = _
  rw [var_eq (d := lnD (lnZ (ldK n xs out) ((sucA n xs p).foldl addU f) p)) rfl, bind_ok, if_pos z6]
  rfl
theorem ll_idle {RM TB : D} {f : List (List Nat)} {k : Nat} (hk : f.length ≤ k) (o7 o8 o9 o10 o11 : Option D) : forB (gnm 7) llB (nD k) [some (nD n), some (.lst (xs.map Deed.d)), some (nD out), some RM, some (.lst (f.map rD)), some (.dic true (tabF rD 0 f)), some TB, o7, o8, o9, o10, o11, none] = .ok (.next (lE n xs out RM TB f k o8 o9 o10 o11)) := by
  have tl := lenN f rD
  have ol : olt (nD k) (nD f.length) = .ok (.bl false) := by rw [oltN, decide_eq_false (by omega)]
  show llB [some (nD n), some (.lst (xs.map Deed.d)), some (nD out), some RM, some (.lst (f.map rD)), some (.dic true (tabF rD 0 f)), some TB, some (nD k), o8, o9, o10, o11, none] = _
  unfold llB lE
  generalize Py.D.dic true (tabF rD 0 f) = T at *
  generalize f.map rD = FM at *
  generalize nD k = A at *
  generalize nD f.length = FL at *
  simp [var, tl, ol]
theorem ll_rest {RM TB : D} {f : List (List Nat)} : ∀ (m k : Nat) (o7 o8 o9 o10 o11 : Option D), f.length ≤ k → ∃ o7', forL (forB (gnm 7) llB) ((List.range' k m).map nD) [some (nD n), some (.lst (xs.map Deed.d)), some (nD out), some RM, some (.lst (f.map rD)), some (.dic true (tabF rD 0 f)), some TB, o7, o8, o9, o10, o11, none] = .ok (.next [some (nD n), some (.lst (xs.map Deed.d)), some (nD out), some RM, some (.lst (f.map rD)), some (.dic true (tabF rD 0 f)), some TB, o7', o8, o9, o10, o11, none])
  | 0, k, o7, o8, o9, o10, o11, _ => ⟨o7, rfl⟩
  | m + 1, k, o7, o8, o9, o10, o11, hk => by
    obtain ⟨o7', q⟩ := ll_rest m (k + 1) (some (nD k)) o8 o9 o10 o11 (RM := RM) (TB := TB) (f := f) (by omega)
    refine ⟨o7', ?_⟩
    rw [List.range'_succ, List.map_cons, forL, ll_idle hk, bind_ok]
    exact q
theorem ll_loop (h1 : 1 ≤ n) (h3 : n ≤ 3) (hr : Row n xs) (hz : n + xs.length ≤ 1000) (ho : out < n + xs.length) {U : List (List Nat)} (hU : ∀ p, Fit p (tops xs) → p ∈ U) (hUl : U.length ≤ 1000) {RM : D} : ∀ (m : Nat) (f : List (List Nat)) (a : Nat) (o7 o8 o9 o10 o11 : Option D), FndU (fun p => Fit p (tops xs)) f → CldU (sucA n xs) f a → a ≤ f.length → U.length ≤ a + m →
    ∃ o7' o8' o9' o10' o11', forL (forB (gnm 7) llB) ((List.range' a m).map nD) [some (nD n), some (.lst (xs.map Deed.d)), some (nD out), some RM, some (.lst (f.map rD)), some (.dic true (tabF rD 0 f)), some (.lst (stA (ldK n xs out) f a)), o7, o8, o9, o10, o11, none] = .ok (.next [some (nD n), some (.lst (xs.map Deed.d)), some (nD out), some RM, some (.lst ((cloL (sucA n xs) m f a).map rD)), some (.dic true (tabF rD 0 (cloL (sucA n xs) m f a))), some (.lst (stA (ldK n xs out) (cloL (sucA n xs) m f a) (cloL (sucA n xs) m f a).length)), o7', o8', o9', o10', o11', none])
  | 0, f, a, o7, o8, o9, o10, o11, hF, hc, ha, hk => by
    have l := hF.nd.length_le_of_subset fun p hp => hU p (hF.all p hp)
    have e : a = f.length := by omega
    subst e
    exact ⟨o7, o8, o9, o10, o11, rfl⟩
  | m + 1, f, a, o7, o8, o9, o10, o11, hF, hc, ha, hk => by
    have l := hF.nd.length_le_of_subset fun p hp => hU p (hF.all p hp)
    rw [cloL]
    cases hp : f[a]? with
    | none =>
      have e : a = f.length := by
        by_cases c : a < f.length
        · rw [List.getElem?_eq_getElem c] at hp
          cases hp
        · omega
      obtain ⟨o7', q⟩ := ll_rest (n := n) (out := out) (xs := xs) (RM := RM) (TB := .lst (stA (ldK n xs out) f a)) (f := f) (m + 1) a o7 o8 o9 o10 o11 (by omega)
      subst e
      exact ⟨o7', o8, o9, o10, o11, q⟩
    | some p =>
      have hlt : a < f.length := by
        by_cases c : a < f.length
        · exact c
        · rw [List.getElem?_eq_none (by omega)] at hp
          cases hp
      have fit := hF.all p (List.mem_of_getElem? hp)
      obtain ⟨f1, f2⟩ := hF.step (sucA_fit hr hz) fit
      obtain ⟨o8', o9', o10', o11', q⟩ := ll_body h1 h3 hr hz ho (RM := RM) hp fit hc (by omega) o7 o8 o9 o10 o11
      obtain ⟨r, hr2⟩ := foldU_pre (sucA n xs p) f
      obtain ⟨b7, b8, b9, b10, b11, q2⟩ := ll_loop h1 h3 hr hz ho hU hUl (RM := RM) m _ (a + 1) (some (nD a)) o8' o9' o10' o11' f1 (hc.step hp) (by rw [hr2, List.length_append]; omega) (by omega)
      refine ⟨b7, b8, b9, b10, b11, ?_⟩
      rw [List.range'_succ, List.map_cons, forL, q, bind_ok]
      exact q2
/-- all marks met -/
def clA (n : Nat) (xs : List Deed) (room : Nat) : List (List Nat) := cloL (sucA n xs) room [zer xs] 0
theorem clA_ok (hr : Row n xs) (hz : n + xs.length ≤ 1000) {room : Nat} (hp : prd (tops xs) ≤ room) : FndU (fun p => Fit p (tops xs)) (clA n xs room) ∧ CldU (sucA n xs) (clA n xs room) (clA n xs room).length ∧ (clA n xs room).length ≤ prd (tops xs) := by
  have := clo_ok (succ := sucA n xs) (P := fun p => Fit p (tops xs)) (sucA_fit hr hz) (U := allM (tops xs)) (fun p h => allM_mem h) room [zer xs] 0 ⟨by simp, fun p hp => by rw [List.mem_singleton.mp hp]; exact zer_fit hr⟩ (fun i p hi => by omega) (by simp) (by rw [allM_len]; omega)
  rw [allM_len] at this
  exact this
theorem clA_tab (hr : Row n xs) (hz : n + xs.length ≤ 1000) {room : Nat} (hp : prd (tops xs) ≤ room) : TabZ (ldK n xs out) (clA n xs room) (zer xs) := by
  obtain ⟨h1, h2, _⟩ := clA_ok hr hz hp
  refine ⟨fun p hp x hx => ?_, ?_⟩
  · obtain ⟨i, hi, rfl⟩ := List.mem_iff_getElem.mp hp
    exact h2 i _ hi (List.getElem?_eq_getElem hi) x.2 (suc_sub (out := out) (List.mem_map.mpr ⟨x, hx, rfl⟩))
  · obtain ⟨r, hr⟩ := clo_pre (succ := sucA n xs) room [zer xs] 0
    exact ⟨r, hr⟩
theorem leads_ok (h1 : 1 ≤ n) (h3 : n ≤ 3) (hr : Row n xs) (hz : n + xs.length ≤ 1000) (ho : out < n + xs.length) {room : Nat} (hp : prd (tops xs) ≤ room) (hm : room ≤ 1000) :
    m_law_leads [nD n, .lst (xs.map Deed.d), nD out, nD room] = .ok (stD (ldK n xs out) (clA n xs room)) := by
  obtain ⟨b7, b8, b9, b10, b11, q⟩ := ll_loop h1 h3 hr hz ho (U := allM (tops xs)) (fun p h => allM_mem h) (by rw [allM_len]; omega) (RM := nD room) room [zer xs] 0 none none none none none ⟨by simp, fun p hp => by rw [List.mem_singleton.mp hp]; exact zer_fit hr⟩ (fun i p hi => by omega) (by simp) (by rw [allM_len]; omega)
  have zm := zeros_marks hr (by omega) (e := [some (nD n), some (.lst (xs.map Deed.d)), some (nD out), some (nD room), none, none, none, none, none, none, none, none, none]) rfl rfl
  have d1 : dic1 true (bin oidx (var 4) (cst (.int 0))) (cst (.int 0)) [some (nD n), some (.lst (xs.map Deed.d)), some (nD out), some (nD room), some (.lst ([zer xs].map rD)), none, none, none, none, none, none, none, none] = .ok (.dic true (tabF rD 0 [zer xs])) := dic1_eq rfl rfl (key_rD.ok _)
  have hF := clA_ok hr hz hp
  unfold m_law_leads
  rw [fn4]
  unfold b__law_leads
  refine (congrArg done ((asg_pass (d := .lst ([zer xs].map rD)) ?_).trans ((asg_pass d1).trans ((asg_pass (d := .lst []) rfl).trans ((for_pass (xs := (List.range' 0 room).map nD) ?_ q).trans (?_ : _ = Res.ok (Fl.ret (stD (ldK n xs out) (clA n xs room))))))))).trans (done_ret _)
  · rw [lstE_eq, argC_eq]
    change un btuple _ [some (nD n), some (.lst (xs.map Deed.d)), some (nD out), some (nD room), none, none, none, none, none, none, none, none, none] = _ at zm
    show (un btuple _ [some (nD n), some (.lst (xs.map Deed.d)), some (nD out), some (nD room), none, none, none, none, none, none, none, none, none] >>= _) >>= _ = _
    rw [zm]
    rfl
  · rw [← List.range_eq_range']
    exact irng_n rfl hm
  · show Res.ok (Fl.ret (Py.D.lst (stA (ldK n xs out) (clA n xs room) (clA n xs room).length))) = _
    unfold stA stD
    rw [List.take_length]
end
end Py.U
namespace Py.U
open PySem
/-! ### the law's own counting -/
theorem setL_n {i : Nat} {j m : EM} {e : Env} {xs : List D} {d : D} {k : Nat} (h1 : e[i]? = some (some (.lst xs))) (h2 : m e = .ok d) (h3 : j e = .ok (nD k)) (hk : k < xs.length) : setL i j m e = .ok (.next (e.set i (some (.lst (xs.set k d))))) := by
  unfold setL
  rw [var_eq h1, bind_ok]
  simp only [h2, h3, bind_ok]
  unfold nD
  simp only [ixN_nat hk]
theorem addL_zero : ∀ (ln : List (Nat × Nat)) (t : List Nat), addL 0 t ln = t
  | [], t => rfl
  | g :: ln, t => by
    unfold addL
    rw [List.foldl_cons]
    have : t.set g.2 (t.getD g.2 0 + 0) = t := by
      rw [Nat.add_zero]
      by_cases h : g.2 < t.length
      · rw [List.getD_eq_getElem?_getD, List.getElem?_eq_getElem h]
        exact List.set_getElem_self h
      · exact List.set_eq_of_length_le (by omega)
    rw [this]
    exact addL_zero ln t
theorem set_map (t : List Nat) (g v : Nat) : (t.map nD).set g (nD v) = (t.set g v).map nD := by rw [List.map_set]
def lzS : SM := (setL 4 (var 7) (bin oadd (bin oidx (var 4) (var 7)) (bin oidx (var 2) (var 5))))
def lzK : SM := (Py.ite (tst (bin ogt (bin oidx (var 2) (var 5)) (cst (.int 0)))) (for_ (iseq (bin oidx (var 0) (var 5))) (gtup [(gnm 6), (gnm 7)]) lzS) skip)
def lzW : SM := (seq (asg (gnm 4) (lcE (iseq (var 0)) [8] (gnm 8) yes (cst (.int 0))))
  (seq (for_ (irng1 (un blen (var 0))) (gnm 5) lzK)
  (asg (gnm 2) (var 4))))
theorem lz_line {ST W : D} {o3 : Option D} {now : List Nat} {k : Nat} (hk : k < now.length) : ∀ (ln : List (Nat × Nat)) (t : List Nat) (o6 o7 : Option D), (∀ g ∈ ln, g.2 < t.length) → ∃ o6' o7', forL (forB (gtup [(gnm 6), (gnm 7)]) lzS) (ln.map pD) [some ST, some W, some (.lst (now.map nD)), o3, some (.lst (t.map nD)), some (nD k), o6, o7, none] = .ok (.next [some ST, some W, some (.lst (now.map nD)), o3, some (.lst ((addL (now.getD k 0) t ln).map nD)), some (nD k), o6', o7', none])
  | [], t, o6, o7, _ => ⟨o6, o7, rfl⟩
  | g :: ln, t, o6, o7, h => by
    have hg := h g List.mem_cons_self
    have i1 := idx_nL (c := t) hg
    have i2 := idx_nL (c := now) hk
    have ad := nadd (at1 t g.2) (at1 now k)
    have e : forB (gtup [(gnm 6), (gnm 7)]) lzS (pD g) [some ST, some W, some (.lst (now.map nD)), o3, some (.lst (t.map nD)), some (nD k), o6, o7, none] = .ok (.next [some ST, some W, some (.lst (now.map nD)), o3, some (.lst ((t.set g.2 (t.getD g.2 0 + now.getD k 0)).map nD)), some (nD k), some (nD g.1), some (nD g.2), none]) := by
      show lzS [some ST, some W, some (.lst (now.map nD)), o3, some (.lst (t.map nD)), some (nD k), some (nD g.1), some (nD g.2), none] = _
      unfold lzS
      rw [setL_n (xs := t.map nD) (d := nD (at1 t g.2 + at1 now k)) (k := g.2) rfl ?_ rfl (by rw [List.length_map]; exact hg), set_map]
      · rfl
      · generalize nD (at1 t g.2 + at1 now k) = S at *
        generalize nD (at1 t g.2) = A at *
        generalize nD (at1 now k) = B at *
        generalize nD g.2 = G at *
        generalize nD k = K at *
        generalize t.map nD = TT at *
        generalize now.map nD = NN at *
        simp [var, i1, i2, ad]
    obtain ⟨o6', o7', q⟩ := lz_line (ST := ST) (W := W) (o3 := o3) hk ln (t.set g.2 (t.getD g.2 0 + now.getD k 0)) (some (nD g.1)) (some (nD g.2)) (fun x hx => by rw [List.length_set]; exact h x (List.mem_cons_of_mem _ hx))
    refine ⟨o6', o7', ?_⟩
    rw [List.map_cons, forL, e, bind_ok]
    exact q
section
variable {α : Type} [DecidableEq α] {ld : α → List (Nat × α)} {F : List α} {p0 : α}
theorem tb_at {k : Nat} (hk : k < F.length) : (F.map (lnZ ld F)).getD k [] = lnZ ld F F[k] := by
  rw [List.getD_eq_getElem?_getD, List.getElem?_map, List.getElem?_eq_getElem hk]
  rfl
theorem lz_k (T : TabZ ld F p0) {W : D} {o3 : Option D} {now : List Nat} (hn : now.length = F.length) {k : Nat} (hk : k < F.length) (o5 o6 o7 : Option D) :
    ∃ o6' o7', forB (gnm 5) lzK (nD k) [some (stD ld F), some W, some (.lst (now.map nD)), o3, some (.lst ((fwd (F.map (lnZ ld F)) now k).map nD)), o5, o6, o7, none] = .ok (.next [some (stD ld F), some W, some (.lst (now.map nD)), o3, some (.lst ((fwd (F.map (lnZ ld F)) now (k + 1)).map nD)), some (nD k), o6', o7', none]) := by
  have i2 := idx_nL (c := now) (i := k) (by omega)
  have gt : ogt (nD (at1 now k)) (.int 0) = .ok (.bl (decide (0 < at1 now k))) := by
    unfold nD
    rw [ogt_ii]
    congr 2
    exact decide_eq_decide.mpr (by omega)
  have is : oidx (stD ld F) (nD k) = .ok (lnD (lnZ ld F F[k])) := oidx_l (by rw [List.getElem?_map, List.getElem?_eq_getElem hk]; rfl)
  have en : fwd (F.map (lnZ ld F)) now (k + 1) = addL (now.getD k 0) (fwd (F.map (lnZ ld F)) now k) (lnZ ld F F[k]) := by rw [fwd, tb_at hk]
  show ∃ o6' o7', lzK [some (stD ld F), some W, some (.lst (now.map nD)), o3, some (.lst ((fwd (F.map (lnZ ld F)) now k).map nD)), some (nD k), o6, o7, none] = _
  unfold lzK
  have ct : tst (bin ogt (bin oidx (var 2) (var 5)) (cst (.int 0))) [some (stD ld F), some W, some (.lst (now.map nD)), o3, some (.lst ((fwd (F.map (lnZ ld F)) now k).map nD)), some (nD k), o6, o7, none] = .ok (decide (0 < at1 now k)) := by
    generalize nD (at1 now k) = A at *
    generalize nD k = K at *
    generalize now.map nD = NN at *
    simp [var, i2, gt]
  rw [ite_eq, ct, bind_ok, en]
  by_cases h0 : 0 < at1 now k
  · rw [decide_eq_true h0, if_pos rfl]
    obtain ⟨o6', o7', q⟩ := lz_line (ST := stD ld F) (W := W) (o3 := o3) (now := now) (k := k) (by omega) (lnZ ld F F[k]) (fwd (F.map (lnZ ld F)) now k) o6 o7 (fun g hg => by rw [fwd_len, List.length_map]; exact ln_lt T (List.getElem_mem hk) g hg)
    refine ⟨o6', o7', ?_⟩
    rw [for_eq]
    have hi : iseq (bin oidx (var 0) (var 5)) [some (stD ld F), some W, some (.lst (now.map nD)), o3, some (.lst ((fwd (F.map (lnZ ld F)) now k).map nD)), some (nD k), o6, o7, none] = .ok ((lnZ ld F F[k]).map pD) := by
      rw [iseq_eq]
      show (oidx (stD ld F) (nD k) >>= _) = _
      rw [is]
      rfl
    rw [hi, bind_ok]
    exact q
  · rw [decide_eq_false h0, if_neg (by decide)]
    have z : now.getD k 0 = 0 := by
      have : at1 now k = now.getD k 0 := rfl
      omega
    rw [z, addL_zero]
    exact ⟨o6, o7, rfl⟩
theorem lz_zero (hF : F.length ≤ 1000) {e : Env} (he : iseq (var 0) e = .ok (F.map fun p => lnD (lnZ ld F p))) : lcE (iseq (var 0)) [8] (gnm 8) yes (cst (.int 0)) e = .ok (.lst ((List.replicate F.length 0).map nD)) := by
  have : (List.replicate F.length 0).map nD = F.map fun _ => D.int 0 := by
    apply List.ext_getElem
    · simp
    · intro i a b
      simp [nD]
  rw [this]
  exact lc_mapI (ys := F) (k := fun p => lnD (lnZ ld F p)) he (le_sz hF) fun p hp => ⟨_, rfl, rfl⟩
theorem lz_round (T : TabZ ld F p0) (hF : F.length ≤ 1000) {W : D} {now : List Nat} (hn : now.length = F.length) (y : D) (o3 o4 o5 o6 o7 : Option D) :
    ∃ o3' o4' o5' o6' o7', forB (gnm 3) lzW y [some (stD ld F), some W, some (.lst (now.map nD)), o3, o4, o5, o6, o7, none] = .ok (.next [some (stD ld F), some W, some (.lst ((fwd (F.map (lnZ ld F)) now F.length).map nD)), o3', o4', o5', o6', o7', none]) := by
  have q := forR_inv (b := forB (gnm 5) lzK) (n := F.length) (e := [some (stD ld F), some W, some (.lst (now.map nD)), some y, some (.lst ((List.replicate F.length 0).map nD)), o5, o6, o7, none])
    (fun k e => ∃ o5 o6 o7, e = [some (stD ld F), some W, some (.lst (now.map nD)), some y, some (.lst ((fwd (F.map (lnZ ld F)) now k).map nD)), o5, o6, o7, none]) ⟨o5, o6, o7, by rw [fwd, List.length_map]⟩ (by
      rintro k e hk ⟨o5, o6, o7, rfl⟩
      obtain ⟨o6', o7', q⟩ := lz_k T (W := W) (o3 := some y) hn hk o5 o6 o7
      exact ⟨_, q, _, _, _, rfl⟩)
  obtain ⟨e', q1, o5', o6', o7', rfl⟩ := q
  refine ⟨some y, some (.lst ((fwd (F.map (lnZ ld F)) now F.length).map nD)), o5', o6', o7', ?_⟩
  show lzW [some (stD ld F), some W, some (.lst (now.map nD)), some y, o4, o5, o6, o7, none] = _
  unfold lzW
  refine (asg_pass (lz_zero hF rfl)).trans ?_
  refine (for_pass (irng_n (n := F.length) ?_ hF) q1).trans rfl
  show blen (stD ld F) = _
  exact lenN F _
theorem law_zeros_ok (T : TabZ ld F p0) (hF : F.length ≤ 1000) {w : Nat} (hw : w ≤ 1000) : m_law_zeros [stD ld F, nD w] = .ok (nD (Zc ld w p0)) := by
  have q := forR_inv (b := forB (gnm 3) lzW) (n := w) (e := [some (stD ld F), some (nD w), some (.lst ((fwdN (F.map (lnZ ld F)) 0).map nD)), none, none, none, none, none, none])
    (fun t e => ∃ o3 o4 o5 o6 o7, e = [some (stD ld F), some (nD w), some (.lst ((fwdN (F.map (lnZ ld F)) t).map nD)), o3, o4, o5, o6, o7, none]) ⟨none, none, none, none, none, rfl⟩ (by
      rintro t e ht ⟨o3, o4, o5, o6, o7, rfl⟩
      obtain ⟨o3', o4', o5', o6', o7', q⟩ := lz_round T hF (W := nD w) (now := fwdN (F.map (lnZ ld F)) t) (by rw [fwdN_len, List.length_map]) (.int ((t : Nat) : Int)) o3 o4 o5 o6 o7
      refine ⟨_, q, o3', o4', o5', o6', o7', ?_⟩
      rw [fwdN, List.length_map])
  obtain ⟨e', q1, o3', o4', o5', o6', o7', rfl⟩ := q
  obtain ⟨r, hr⟩ := T.st
  have hl : 0 < F.length := by rw [hr]; simp
  have bs : bsum (.lst ((fwdN (F.map (lnZ ld F)) w).map nD)) = .ok (nD (Zc ld w p0)) := by
    have := nsum (fun x => x) (fwdN (F.map (lnZ ld F)) w)
    rw [← fwd_sum T w]
    rw [show (fwdN (F.map (lnZ ld F)) w).map (fun x => x) = fwdN (F.map (lnZ ld F)) w by simp] at this
    exact this
  unfold m_law_zeros
  rw [fn2]
  unfold b__law_zeros
  refine (congrArg done ((asg_pass (lz_zero hF rfl)).trans ((seq_next (e' := [some (stD ld F), some (nD w), some (.lst ((fwdN (F.map (lnZ ld F)) 0).map nD)), none, none, none, none, none, none]) ?_).trans ((for_pass (irng_n rfl hw) q1).trans (?_ : _ = Res.ok (Fl.ret (nD (Zc ld w p0)))))))).trans (done_ret _)
  · refine (setL_n (xs := (List.replicate F.length 0).map nD) (d := nD 1) (k := 0) rfl rfl rfl (by rw [List.length_map, List.length_replicate]; exact hl)).trans ?_
    rw [set_map, fwdN, List.length_map]
    rfl
  · show (bsum (.lst ((fwdN (F.map (lnZ ld F)) w).map nD)) >>= _) = _
    rw [bs]
    rfl
/-! ### the law's own first reading -/
def lfM : EM := (bin ogt (un blen (lcE (iseq (var 7)) [8] (gnm 8) (tst (bin oidx (var 4) (bin oidx (var 8) (cst (.int 1))))) (var 8))) (cst (.int 0)))
def lfA : SM := (seq (asg (gnm 4) (bin oidx (var 2) (un oneg (cst (.int 1)))))
  (app 2 (lcE (iseq (var 0)) [7] (gnm 7) yes lfM)))
theorem lf_fil (T : TabZ ld F p0) (hL : ∀ p ∈ F, (ld p).length ≤ 1000) {p : α} (hp : p ∈ F) {m : Nat} {it : IM} {e : Env} (hi : it e = .ok ((lnZ ld F p).map pD)) (h4 : (wipe e [8])[4]? = some (some (boolsD (F.map (alv ld m))))) (hl : e.length = 9) :
    lcE it [8] (gnm 8) (tst (bin oidx (var 4) (bin oidx (var 8) (cst (.int 1))))) (var 8) e = .ok (.lst ((((ld p).filter fun x => alv ld m x.2).map fun x => (x.1, F.idxOf x.2)).map pD)) := by
  rw [← fil_line T m hp]
  refine lc_fil (ys := lnZ ld F p) hi (le_sz (by unfold lnZ; rw [List.length_map]; exact hL p hp)) (by simp [wipe, hl]) fun g hg => ?_
  have b1 := bools_at (bs := F.map (alv ld m)) (i := g.2) (by rw [List.length_map]; exact ln_lt T hp g hg)
  have w9 : (wipe e [8]).length = 9 := by simp [wipe, hl]
  rw [tst_eq, bin_eq, var_eq (d := boolsD (F.map (alv ld m))) (by rw [List.getElem?_set_ne (by omega)]; exact h4), bind_ok, bin_eq, var_eq (d := pD g) (by rw [List.getElem?_set_self (by omega)]), bind_ok]
  show ((oidx (boolsD (F.map (alv ld m))) (nD g.2)) >>= truthy) = _
  rw [b1, bind_ok, truthy_b]
theorem lf_alive (T : TabZ ld F p0) (hF : F.length ≤ 1000) (hL : ∀ p ∈ F, (ld p).length ≤ 1000) {W : D} : ∀ (k t : Nat) (ys : List D) (o3 o4 : Option D), ys.length = k → t + k ≤ 1000 → ∃ o3' o4', forL (forB (gnm 3) lfA) ys [some (stD ld F), some W, some (.lst (alvD ld F t)), o3, o4, none, none, none, none] = .ok (.next [some (stD ld F), some W, some (.lst (alvD ld F (t + k))), o3', o4', none, none, none, none])
  | 0, t, ys, o3, o4, h, _ => by
    have := List.eq_nil_of_length_eq_zero h
    subst this
    exact ⟨o3, o4, rfl⟩
  | k + 1, t, [], o3, o4, h, _ => by simp at h
  | k + 1, t, y :: ys, o3, o4, h, hk => by
    have q : lcE (iseq (var 0)) [7] (gnm 7) yes lfM [some (stD ld F), some W, some (.lst (alvD ld F t)), some y, some (boolsD (F.map (alv ld t))), none, none, none, none] = .ok (boolsD (F.map (alv ld (t + 1)))) := by
      have hh : boolsD (F.map (alv ld (t + 1))) = .lst (F.map fun p => .bl (alv ld (t + 1) p)) := by
        unfold boolsD
        rw [List.map_map]
        rfl
      rw [hh]
      refine lc_mapI (ys := F) (k := fun p => lnD (lnZ ld F p)) rfl (le_sz hF) fun p hp => ⟨_, rfl, ?_⟩
      show lfM [some (stD ld F), some W, some (.lst (alvD ld F t)), some y, some (boolsD (F.map (alv ld t))), none, none, some (lnD (lnZ ld F p)), none] = _
      unfold lfM
      rw [bin_eq, un_eq, lf_fil T hL hp (m := t) rfl rfl rfl, bind_ok]
      have bl : blen (.lst ((((ld p).filter fun x => alv ld t x.2).map fun x => (x.1, F.idxOf x.2)).map pD)) = .ok (nD ((ld p).filter fun x => alv ld t x.2).length) := by
        rw [lenN, List.length_map]
      rw [bl, bind_ok]
      show ogt (nD _) (.int 0) = _
      unfold nD
      rw [ogt_ii, alv]
      congr 2
      rw [Bool.eq_iff_iff, decide_eq_true_eq, List.any_eq_true]
      constructor
      · intro h
        have : 0 < ((ld p).filter fun x => alv ld t x.2).length := by omega
        obtain ⟨x, hx⟩ := List.exists_mem_of_length_pos this
        exact ⟨x, (List.mem_filter.mp hx).1, (List.mem_filter.mp hx).2⟩
      · rintro ⟨x, hx, q⟩
        have := List.length_pos_of_mem (List.mem_filter.mpr ⟨hx, q⟩ : x ∈ (ld p).filter fun x => alv ld t x.2)
        omega
    have e : forB (gnm 3) lfA y [some (stD ld F), some W, some (.lst (alvD ld F t)), o3, o4, none, none, none, none] = .ok (.next [some (stD ld F), some W, some (.lst (alvD ld F (t + 1))), some y, some (boolsD (F.map (alv ld t))), none, none, none, none]) := by
      show lfA [some (stD ld F), some W, some (.lst (alvD ld F t)), some y, o4, none, none, none, none] = _
      unfold lfA
      refine (asg_pass (d := boolsD (F.map (alv ld t))) (alvD_last t)).trans ?_
      show app 2 _ [some (stD ld F), some W, some (.lst (alvD ld F t)), some y, some (boolsD (F.map (alv ld t))), none, none, none, none] = _
      rw [app_eq, var_eq (d := .lst (alvD ld F t)) rfl, bind_ok]
      show (lcE _ _ _ _ _ _ >>= _) = _
      rw [q, bind_ok, if_pos (by rw [alvD_len]; exact Nat.lt_of_le_of_lt (show t + 1 ≤ 1000 by omega) (by decide)), alvD_next]
      rfl
    obtain ⟨o3', o4', q2⟩ := lf_alive T hF hL (W := W) k (t + 1) ys (some y) (some (boolsD (F.map (alv ld t)))) (by simpa using h) (by omega)
    refine ⟨o3', o4', ?_⟩
    rw [forL, e, bind_ok]
    refine q2.trans ?_
    rw [show t + 1 + k = t + (k + 1) by omega]
def lfR : SM := (seq (asg (gnm 4) (bin oidx (var 2) (bin osub (bin osub (var 1) (var 3)) (cst (.int 1)))))
  (seq (asg (gnm 7) (lcE (iseq (bin oidx (var 0) (var 5))) [8] (gnm 8) (tst (bin oidx (var 4) (bin oidx (var 8) (cst (.int 1))))) (var 8)))
  (seq (app 6 (bin oidx (bin oidx (var 7) (cst (.int 0))) (cst (.int 0))))
  (asg (gnm 5) (bin oidx (bin oidx (var 7) (cst (.int 0))) (cst (.int 1)))))))
theorem lf_read (T : TabZ ld F p0) (hL : ∀ p ∈ F, (ld p).length ≤ 1000) {w : Nat} : ∀ (m k : Nat) (p : α) (r : List Nat) (o3 o4 o7 : Option D), p ∈ F → alv ld m p = true → k + m = w → r.length + m ≤ 1000 →
    ∃ o3' o4' o5' o7', forL (forB (gnm 3) lfR) ((List.range' k m).map nD) [some (stD ld F), some (nD w), some (.lst (alvD ld F w)), o3, o4, some (nD (F.idxOf p)), some (.lst (r.map nD)), o7, none] = .ok (.next [some (stD ld F), some (nD w), some (.lst (alvD ld F w)), o3', o4', o5', some (.lst ((r ++ frZ ld m p).map nD)), o7', none])
  | 0, k, p, r, o3, o4, o7, _, _, _, _ => ⟨o3, o4, _, o7, by rw [frZ, List.append_nil]; rfl⟩
  | m + 1, k, p, r, o3, o4, o7, hp, ha, hk, hr => by
    obtain ⟨x, rest, f1, f2, f3, f4⟩ := fr_step ha
    have hx := T.cl p hp x f3
    have s1 : osub (nD w) (nD k) = .ok (nD (m + 1)) := by
      rw [nsub (by omega), show w - k = m + 1 by omega]
    have s2 : osub (nD (m + 1)) (.int 1) = .ok (nD m) := nsub (a := m + 1) (b := 1) (by omega)
    have i1 := alvD_at (ld := ld) (F := F) (t := w) (s := m) (by omega)
    have q := lf_fil T hL hp (m := m) (it := iseq (bin oidx (var 0) (var 5))) (e := [some (stD ld F), some (nD w), some (.lst (alvD ld F w)), some (nD k), some (boolsD (F.map (alv ld m))), some (nD (F.idxOf p)), some (.lst (r.map nD)), o7, none]) (by
      rw [iseq_eq]
      show (oidx (stD ld F) (nD (F.idxOf p)) >>= _) = _
      rw [stD_at hp]
      rfl) rfl rfl
    rw [f1] at q
    have x0 : oidx (.lst ((((x :: rest).map fun x => (x.1, F.idxOf x.2))).map pD)) (.int 0) = .ok (pD (x.1, F.idxOf x.2)) := oidx_l (k := 0) rfl
    have y0 : oidx (pD (x.1, F.idxOf x.2)) (.int 0) = .ok (nD x.1) := rfl
    have y1 : oidx (pD (x.1, F.idxOf x.2)) (.int 1) = .ok (nD (F.idxOf x.2)) := rfl
    have z6 : (r.map nD).length < SZ := by rw [List.length_map]; exact Nat.lt_of_le_of_lt (show r.length ≤ 1000 by omega) (by decide)
    have e : forB (gnm 3) lfR (nD k) [some (stD ld F), some (nD w), some (.lst (alvD ld F w)), o3, o4, some (nD (F.idxOf p)), some (.lst (r.map nD)), o7, none] = .ok (.next [some (stD ld F), some (nD w), some (.lst (alvD ld F w)), some (nD k), some (boolsD (F.map (alv ld m))), some (nD (F.idxOf x.2)), some (.lst ((r ++ [x.1]).map nD)), some (.lst ((((x :: rest).map fun x => (x.1, F.idxOf x.2))).map pD)), none]) := by
      show lfR [some (stD ld F), some (nD w), some (.lst (alvD ld F w)), some (nD k), o4, some (nD (F.idxOf p)), some (.lst (r.map nD)), o7, none] = _
      unfold lfR
      refine (asg_pass (d := boolsD (F.map (alv ld m))) ?_).trans ?_
      · generalize stD ld F = ST at *
        generalize nD (m + 1) = M1 at *
        generalize nD m = M0 at *
        generalize nD w = WW at *
        generalize nD k = KK at *
        generalize alvD ld F w = AL at *
        simp [var, s1, s2, i1]
      refine (asg_pass q).trans ?_
      rw [List.map_append, List.map_singleton]
      generalize ((((x :: rest).map fun x => (x.1, F.idxOf x.2))).map pD) = LL at *
      generalize pD (x.1, F.idxOf x.2) = PP at *
      generalize nD (F.idxOf x.2) = IX at *
      generalize nD x.1 = XX at *
      generalize r.map nD = RR at *
      simp [var, x0, y0, y1, z6]
    obtain ⟨o3', o4', o5', o7', q2⟩ := lf_read T hL (w := w) m (k + 1) x.2 (r ++ [x.1]) (some (nD k)) (some (boolsD (F.map (alv ld m)))) (some (.lst ((((x :: rest).map fun x => (x.1, F.idxOf x.2))).map pD))) hx f2 (by omega) (by simp; omega)
    refine ⟨o3', o4', o5', o7', ?_⟩
    rw [List.range'_succ, List.map_cons, forL, e, bind_ok]
    refine q2.trans ?_
    rw [f4, List.append_assoc]
    rfl
def dueZ (ld : α → List (Nat × α)) (w : Nat) (p : α) : D := if alv ld w p then .lst ((frZ ld w p).map nD) else .non
theorem law_first_ok (T : TabZ ld F p0) (hF : F.length ≤ 1000) (hL : ∀ p ∈ F, (ld p).length ≤ 1000) {w : Nat} (hw : w ≤ 1000) : m_law_first [stD ld F, nD w] = .ok (dueZ ld w p0) := by
  have e3 : lstE (argC (lcE (iseq (var 0)) [7] (gnm 7) yes (cst (.bl true))) argN) [some (stD ld F), some (nD w), none, none, none, none, none, none, none] = .ok (.lst (alvD ld F 0)) := by
    have q : lcE (iseq (var 0)) [7] (gnm 7) yes (cst (.bl true)) [some (stD ld F), some (nD w), none, none, none, none, none, none, none] = .ok (boolsD (F.map (alv ld 0))) := by
      unfold boolsD
      rw [List.map_map]
      exact lc_mapI (ys := F) (k := fun p => lnD (lnZ ld F p)) rfl (le_sz hF) fun p hp => ⟨_, rfl, rfl⟩
    rw [lstE_eq, argC_eq, q]
    rfl
  obtain ⟨o3', o4', q⟩ := lf_alive T hF hL (W := nD w) w 0 ((List.range w).map nD) none none (by simp) (by omega)
  rw [Nat.zero_add] at q
  have mem0 : p0 ∈ F := by obtain ⟨r, hr⟩ := T.st; rw [hr]; exact List.mem_cons_self
  have a1 := alvD_at (ld := ld) (F := F) (t := w) (s := w) (Nat.le_refl w)
  have a2 : oidx (boolsD (F.map (alv ld w))) (.int 0) = .ok (.bl (alv ld w p0)) := by
    obtain ⟨r, hr⟩ := T.st
    rw [hr]
    exact oidx_l (k := 0) rfl
  unfold m_law_first
  rw [fn2]
  unfold b__law_first
  refine (congrArg done ((asg_pass e3).trans ((for_pass (irng_n rfl hw) q).trans (?_ : _ = Res.ok (Fl.ret (dueZ ld w p0)))))).trans (done_ret _)
  unfold dueZ
  cases hA : alv ld w p0 with
  | false =>
    rw [hA] at a2
    generalize stD ld F = ST at *
    generalize alvD ld F w = AL at *
    generalize boolsD (F.map (alv ld w)) = BL at *
    generalize nD w = W at *
    simp [var, a1, a2]
  | true =>
    rw [hA] at a2
    obtain ⟨b3, b4, b5, b7, q3⟩ := lf_read T hL (w := w) w 0 p0 [] o3' o4' none mem0 hA (by omega) (by simpa using hw)
    rw [idx_first T, List.nil_append] at q3
    rw [if_pos rfl]
    refine (chk_pass ?_).trans ((asg_pass (d := nD 0) rfl).trans ((asg_pass (d := .lst []) rfl).trans ((for_pass (xs := (List.range' 0 w).map nD) ?_ q3).trans rfl)))
    · generalize stD ld F = ST at *
      generalize alvD ld F w = AL at *
      generalize boolsD (F.map (alv ld w)) = BL at *
      generalize nD w = W at *
      simp [var, a1, a2]
    · rw [← List.range_eq_range']
      exact irng_n rfl hw
end
end Py.U
namespace Py.U
open PySem
/-! ### word by word -/
def lpI : SM := (seq (asg (gnm 10) (bin oand (bin oshr (var 6) (bin omul (var 0) (var 9))) (bin osub (bin oshl (cst (.int 1)) (var 0)) (cst (.int 1)))))
  (seq (asg (gtup [(gnm 11), (gnm 7)]) (call m_law_step (argC (var 0) (argC (var 1) (argC (var 7) (argC (var 10) argN))))))
  (asg (gnm 8) (andE (var 8) (bin oeq (bin oidx (var 11) (var 2)) (cst (.int 0)))))))
def lpB : SM := (seq (asg (gnm 7) (var 5))
  (seq (asg (gnm 8) (cst (.bl true)))
  (seq (for_ (irng1 (var 3)) (gnm 9) lpI)
  (asg (gnm 4) (bin oadd (var 4) (un bint (var 8)))))))
section
variable {n out : Nat} {xs : List Deed}
theorem stZ_fit (hr : Row n xs) (hz : n + xs.length ≤ 1000) (word : Nat) : ∀ t, Fit (stZ (2 ^ n) (nx1 n xs) word t (zer xs)) (tops xs)
  | 0 => zer_fit hr
  | t + 1 => nx1_fit hr hz (stZ_fit hr hz word t) _
theorem lp_place (h1 : 1 ≤ n) (h3 : n ≤ 3) (hr : Row n xs) (hz : n + xs.length ≤ 1000) (ho : out < n + xs.length) {W Z : D} {word t : Nat} (ht : t ≤ 1000) (o9 o10 o11 : Option D) :
    ∃ o10' o11', forB (gnm 9) lpI (nD t) [some (nD n), some (.lst (xs.map Deed.d)), some (nD out), some W, some Z, some (rD (zer xs)), some (nD word), some (rD (stZ (2 ^ n) (nx1 n xs) word t (zer xs))), some (.bl (okZ (2 ^ n) (nx1 n xs) (ot1 n xs out) word (zer xs) t)), o9, o10, o11, none] = .ok (.next [some (nD n), some (.lst (xs.map Deed.d)), some (nD out), some W, some Z, some (rD (zer xs)), some (nD word), some (rD (stZ (2 ^ n) (nx1 n xs) word (t + 1) (zer xs))), some (.bl (okZ (2 ^ n) (nx1 n xs) (ot1 n xs out) word (zer xs) (t + 1))), some (nD t), o10', o11', none]) := by
  have fit := stZ_fit hr hz word t
  have st := law_step_ok (word / (2 ^ n) ^ t % 2 ^ n) fit hr hz
  have bl : (runD (stZ (2 ^ n) (nx1 n xs) word t (zer xs)) (lb n (word / (2 ^ n) ^ t % 2 ^ n)) xs).1.length = n + xs.length := (runD_at _ fit hr hz).len
  have eb : oidx (.lst ((runD (stZ (2 ^ n) (nx1 n xs) word t (zer xs)) (lb n (word / (2 ^ n) ^ t % 2 ^ n)) xs).1.map nD)) (nD out) = .ok (nD (ot1 n xs out (stZ (2 ^ n) (nx1 n xs) word t (zer xs)) (word / (2 ^ n) ^ t % 2 ^ n))) := bits_at (by omega)
  have ez := nat_eq (ot1 n xs out (stZ (2 ^ n) (nx1 n xs) word t (zer xs)) (word / (2 ^ n) ^ t % 2 ^ n)) 0
  have m1 := nmul (a := n) (b := t) (by omega)
  have s1 := bitN1 word (n * t)
  rw [Nat.pow_mul] at s1
  have s2 : oshl (.int 1) (nD n) = .ok (nD (2 ^ n)) := shl_nD (by omega)
  have s3 : osub (nD (2 ^ n)) (.int 1) = .ok (nD (2 ^ n - 1)) := nsub (a := 2 ^ n) (b := 1) (Nat.two_pow_pos n)
  have s4 := nand (word / (2 ^ n) ^ t) (2 ^ n - 1)
  rw [Nat.and_two_pow_sub_one_eq_mod] at s4
  have eo : okZ (2 ^ n) (nx1 n xs) (ot1 n xs out) word (zer xs) (t + 1) = (okZ (2 ^ n) (nx1 n xs) (ot1 n xs out) word (zer xs) t && decide (ot1 n xs out (stZ (2 ^ n) (nx1 n xs) word t (zer xs)) (word / (2 ^ n) ^ t % 2 ^ n) = 0)) := by
    rw [okZ]
    congr 1
  have en : stZ (2 ^ n) (nx1 n xs) word (t + 1) (zer xs) = nx1 n xs (stZ (2 ^ n) (nx1 n xs) word t (zer xs)) (word / (2 ^ n) ^ t % 2 ^ n) := rfl
  rw [eo, en]
  generalize stZ (2 ^ n) (nx1 n xs) word t (zer xs) = p at *
  generalize word / (2 ^ n) ^ t % 2 ^ n = l at *
  generalize (runD p (lb n l) xs).1.map nD = BS at *
  generalize ot1 n xs out p l = b at *
  generalize nx1 n xs p l = q at *
  generalize okZ (2 ^ n) (nx1 n xs) (ot1 n xs out) word (zer xs) t = k at *
  refine ⟨some (nD l), some (.lst BS), ?_⟩
  show lpI [some (nD n), some (.lst (xs.map Deed.d)), some (nD out), some W, some Z, some (rD (zer xs)), some (nD word), some (rD p), some (.bl k), some (nD t), o10, o11, none] = _
  unfold lpI
  refine (asg_pass (d := nD l) ?_).trans ?_
  · generalize nD (2 ^ n - 1) = A1 at *
    generalize nD (2 ^ n) = A2 at *
    generalize nD (word / (2 ^ n) ^ t) = A3 at *
    generalize nD (n * t) = A4 at *
    generalize nD word = A5 at *
    generalize nD t = A6 at *
    generalize nD n = A7 at *
    generalize nD l = A8 at *
    simp [var, m1, s1, s2, s3, s4]
  refine (seq_next (e' := [some (nD n), some (.lst (xs.map Deed.d)), some (nD out), some W, some Z, some (rD (zer xs)), some (nD word), some (rD q), some (.bl k), some (nD t), some (nD l), some (.lst BS), none]) ?_).trans ?_
  · have cc : call m_law_step (argC (var 0) (argC (var 1) (argC (var 7) (argC (var 10) argN)))) [some (nD n), some (.lst (xs.map Deed.d)), some (nD out), some W, some Z, some (rD (zer xs)), some (nD word), some (rD p), some (.bl k), some (nD t), some (nD l), o11, none] = .ok (.tup [.lst BS, rD q]) := by
      generalize xs.map Deed.d = DS at *
      generalize rD p = PP at *
      generalize rD q = Q at *
      generalize nD l = LL at *
      generalize nD n = N at *
      simp [var, st]
    show asg (gtup [(gnm 11), (gnm 7)]) _ [some (nD n), some (.lst (xs.map Deed.d)), some (nD out), some W, some Z, some (rD (zer xs)), some (nD word), some (rD p), some (.bl k), some (nD t), some (nD l), o11, none] = _
    rw [asg_eq, cc]
    rfl
  have ez' : oeq (nD b) (.int 0) = .ok (.bl (decide (b = 0))) := ez
  generalize decide (b = 0) = D0 at *
  generalize nD b = BB at *
  generalize nD out = OU at *
  generalize rD q = Q at *
  cases k <;> simp [var, eb, ez']
theorem lp_word (h1 : 1 ≤ n) (h3 : n ≤ 3) (hr : Row n xs) (hz : n + xs.length ≤ 1000) (ho : out < n + xs.length) {w : Nat} (hw : w ≤ 1000) {z word : Nat} (o6 o7 o8 o9 o10 o11 : Option D) :
    ∃ o7' o8' o9' o10' o11', forB (gnm 6) lpB (nD word) [some (nD n), some (.lst (xs.map Deed.d)), some (nD out), some (nD w), some (nD z), some (rD (zer xs)), o6, o7, o8, o9, o10, o11, none] = .ok (.next [some (nD n), some (.lst (xs.map Deed.d)), some (nD out), some (nD w), some (nD (z + if okZ (2 ^ n) (nx1 n xs) (ot1 n xs out) word (zer xs) w then 1 else 0)), some (rD (zer xs)), some (nD word), o7', o8', o9', o10', o11', none]) := by
  have q := forR_inv (b := forB (gnm 9) lpI) (n := w) (e := [some (nD n), some (.lst (xs.map Deed.d)), some (nD out), some (nD w), some (nD z), some (rD (zer xs)), some (nD word), some (rD (zer xs)), some (.bl true), o9, o10, o11, none])
    (fun t e => ∃ o9 o10 o11, e = [some (nD n), some (.lst (xs.map Deed.d)), some (nD out), some (nD w), some (nD z), some (rD (zer xs)), some (nD word), some (rD (stZ (2 ^ n) (nx1 n xs) word t (zer xs))), some (.bl (okZ (2 ^ n) (nx1 n xs) (ot1 n xs out) word (zer xs) t)), o9, o10, o11, none]) ⟨o9, o10, o11, rfl⟩ (by
      rintro t e ht ⟨o9, o10, o11, rfl⟩
      obtain ⟨o10', o11', q⟩ := lp_place h1 h3 hr hz ho (W := nD w) (Z := nD z) (word := word) (t := t) (by omega) o9 o10 o11
      exact ⟨_, q, _, _, _, rfl⟩)
  obtain ⟨e', q1, o9', o10', o11', rfl⟩ := q
  have ad := nadd z (if okZ (2 ^ n) (nx1 n xs) (ot1 n xs out) word (zer xs) w then 1 else 0)
  have bp := bint_p (okZ (2 ^ n) (nx1 n xs) (ot1 n xs out) word (zer xs) w)
  refine ⟨some (rD (stZ (2 ^ n) (nx1 n xs) word w (zer xs))), some (.bl (okZ (2 ^ n) (nx1 n xs) (ot1 n xs out) word (zer xs) w)), o9', o10', o11', ?_⟩
  show lpB [some (nD n), some (.lst (xs.map Deed.d)), some (nD out), some (nD w), some (nD z), some (rD (zer xs)), some (nD word), o7, o8, o9, o10, o11, none] = _
  unfold lpB
  refine (asg_pass (d := rD (zer xs)) rfl).trans ((asg_pass (d := .bl true) rfl).trans ((for_pass (irng_n rfl hw) q1).trans ?_))
  generalize nD (z + if okZ (2 ^ n) (nx1 n xs) (ot1 n xs out) word (zer xs) w then 1 else 0) = A1 at *
  generalize nD (if okZ (2 ^ n) (nx1 n xs) (ot1 n xs out) word (zer xs) w then 1 else 0) = A2 at *
  generalize okZ (2 ^ n) (nx1 n xs) (ot1 n xs out) word (zer xs) w = KK at *
  generalize nD z = ZZ at *
  simp [var, ad, bp]
theorem plain_ok (h1 : 1 ≤ n) (h3 : n ≤ 3) (hr : Row n xs) (hz : n + xs.length ≤ 1000) (ho : out < n + xs.length) {w : Nat} (hw : n * w ≤ 8) : m_law_plain [nD n, .lst (xs.map Deed.d), nD out, nD w] = .ok (nD (Zc (ldK n xs out) w (zer xs))) := by
  have hw8 : w ≤ 8 := by
    have := Nat.mul_le_mul_right w h1
    omega
  have zm := zeros_marks hr (by omega) (e := [some (nD n), some (.lst (xs.map Deed.d)), some (nD out), some (nD w), some (.int 0), none, none, none, none, none, none, none, none]) rfl rfl
  have q := forR_inv (b := forB (gnm 6) lpB) (n := 2 ^ (n * w)) (e := [some (nD n), some (.lst (xs.map Deed.d)), some (nD out), some (nD w), some (nD 0), some (rD (zer xs)), none, none, none, none, none, none, none])
    (fun k e => ∃ o6 o7 o8 o9 o10 o11, e = [some (nD n), some (.lst (xs.map Deed.d)), some (nD out), some (nD w), some (nD ((List.range k).map fun word => if okZ (2 ^ n) (nx1 n xs) (ot1 n xs out) word (zer xs) w then 1 else 0).sum), some (rD (zer xs)), o6, o7, o8, o9, o10, o11, none]) ⟨none, none, none, none, none, none, rfl⟩ (by
      rintro k e hk ⟨o6, o7, o8, o9, o10, o11, rfl⟩
      obtain ⟨o7', o8', o9', o10', o11', q⟩ := lp_word h1 h3 hr hz ho (w := w) (by omega) (z := ((List.range k).map fun word => if okZ (2 ^ n) (nx1 n xs) (ot1 n xs out) word (zer xs) w then 1 else 0).sum) (word := k) o6 o7 o8 o9 o10 o11
      refine ⟨_, q, some (nD k), o7', o8', o9', o10', o11', ?_⟩
      rw [List.range_succ, List.map_append, List.sum_append]
      simp)
  obtain ⟨e', q1, o6, o7, o8, o9, o10, o11, rfl⟩ := q
  have ws := word_sum (L := 2 ^ n) (nx := nx1 n xs) (ot := ot1 n xs out) (Nat.two_pow_pos n) w (zer xs)
  rw [← Nat.pow_mul] at ws
  rw [ws] at q1
  have m1 := nmul (a := n) (b := w) (by omega)
  have s1 : oshl (.int 1) (nD (n * w)) = .ok (nD (2 ^ (n * w))) := shl_nD (by omega)
  have hpow : 2 ^ (n * w) ≤ 1000 := Nat.le_trans (Nat.pow_le_pow_right (n := 2) (by decide) hw) (by decide)
  unfold m_law_plain
  rw [fn4]
  unfold b__law_plain
  refine (congrArg done ((asg_pass (d := .int 0) rfl).trans ((asg_pass zm).trans ((for_pass (irng_n (n := 2 ^ (n * w)) ?_ hpow) q1).trans (?_ : _ = Res.ok (Fl.ret (nD (Zc (ldK n xs out) w (zer xs))))))))).trans (done_ret _)
  · show ((omul (nD n) (nD w)) >>= fun y => oshl (.int 1) y) = _
    rw [m1, bind_ok, s1]
  · rfl
end
/-! ### small checks -/
theorem oeq_refl {d : D} (h : plain d = true) : oeq d d = .ok (.bl true) := by
  unfold oeq
  rw [h, eqv_refl 64 _ h]
  rfl
theorem deed_pl (x : Deed) : pl 63 x.d = true := by
  cases x with
  | count p r ps =>
    show ([D.str "count", nD p, nD r, .tup (ps.map nD)].all (pl 62)) = true
    have : pl 62 (.tup (ps.map nD)) = true := by
      show ((ps.map nD).all (pl 61)) = true
      rw [List.all_eq_true]
      intro d hd
      obtain ⟨a, _, rfl⟩ := List.mem_map.mp hd
      rfl
    simp only [List.all_cons, List.all_nil, this, Bool.and_true]
    rfl
  | _ => rfl
theorem deeds_plain (xs : List Deed) : plain (.tup (xs.map Deed.d)) = true := by
  show ((xs.map Deed.d).all (pl 63)) = true
  rw [List.all_eq_true]
  intro d hd
  obtain ⟨x, _, rfl⟩ := List.mem_map.mp hd
  exact deed_pl x
theorem whole_ok (x : Nat) : m_law_whole [nD x] = .ok (.bl true) := by
  have h1 : oisi CS [.int] (nD x) = .ok (.bl true) := rfl
  have h2 : oisi CS [.bl] (nD x) = .ok (.bl false) := rfl
  unfold m_law_whole
  rw [fn1]
  unfold b__law_whole
  generalize nD x = N at *
  simp [var, h1, h2]
def irB : SM := (Py.ite (orT (notT (tst (call m_law_whole (argC (bin oidx (var 0) (var 2)) argN)))) (tst (bin Py.one (bin oidx (var 0) (var 2)) (bin oidx (var 1) (var 2))))) (ret (cst (.bl false))) skip)
theorem is_reading_ok {r : List Nat} (hz : r.length ≤ 1000) : m_law_is_reading [rD r, .lst (r.map nD)] = .ok (.bl true) := by
  have z : oisN (.lst (r.map nD)) = .ok (.bl false) := rfl
  have t1 : oisi CS [.tup] (rD r) = .ok (.bl true) := rfl
  have lr : blen (rD r) = .ok (nD r.length) := lenT r nD
  have ll : blen (.lst (r.map nD)) = .ok (nD r.length) := lenN r nD
  have n1 : Py.one (nD r.length) (nD r.length) = .ok (.bl false) := by simp [nD]
  obtain ⟨e', lp, o2, rfl⟩ := forR_inv (b := forB (gnm 2) irB) (n := r.length) (e := [some (rD r), some (.lst (r.map nD)), none]) (fun _ E => ∃ o2, E = [some (rD r), some (.lst (r.map nD)), o2]) ⟨none, rfl⟩ (by
    rintro i E hi ⟨o2, rfl⟩
    have ix := idx_nT (c := r) (i := i) hi
    have iy := idx_nL (c := r) (i := i) hi
    have wh := whole_ok (at1 r i)
    have n2 : Py.one (nD (at1 r i)) (nD (at1 r i)) = .ok (.bl false) := by simp [nD]
    change oidx _ (.int (i : Int)) = _ at ix
    change oidx _ (.int (i : Int)) = _ at iy
    refine ⟨_, ?_, some (.int (i : Int)), rfl⟩
    rw [forB_eq, gnm_eq, lift_some, bind_ok]
    show irB [some (rD r), some (.lst (r.map nD)), some (.int (i : Int))] = _
    unfold irB
    generalize nD (at1 r i) = V at *
    generalize rD r = RR at *
    generalize r.map nD = RL at *
    generalize (i : Int) = I at *
    simp [var, ix, iy, wh, n2])
  have hr0 : irng1 (un blen (var 1)) [some (rD r), some (.lst (r.map nD)), none] = .ok ((List.range r.length).map nD) := irng_n (n := r.length) ll hz
  unfold m_law_is_reading
  rw [fn2]
  show done (seq _ (seq _ (seq (for_ (irng1 (un blen (var 1))) (gnm 2) irB) _)) [some (rD r), some (.lst (r.map nD)), none]) = _
  refine (congrArg done ((chk_pass ?_).trans ((chk_pass ?_).trans ((for_pass hr0 lp).trans rfl)))).trans (done_ret (.bl true))
  · generalize rD r = RR at *
    generalize r.map nD = RL at *
    simp [var, z]
  · generalize rD r = RR at *
    generalize r.map nD = RL at *
    generalize nD r.length = LL at *
    simp [var, t1, lr, ll, n1]
theorem fr_len {α : Type} [DecidableEq α] {ld : α → List (Nat × α)} : ∀ (w : Nat) (p : α), (frZ ld w p).length ≤ w
  | 0, p => by simp [frZ]
  | w + 1, p => by
    rw [frZ]
    split
    · rename_i x _ _
      have := fr_len (ld := ld) w x.2
      simp
      exact this
    · simp
theorem answer_ok {α : Type} [DecidableEq α] {ld : α → List (Nat × α)} {w : Nat} (hw : w ≤ 1000) (p : α) : m_law_is_reading [ansZ ld w p, dueZ ld w p] = .ok (.bl true) := by
  unfold ansZ dueZ
  cases h : alv ld w p with
  | true => exact is_reading_ok (Nat.le_trans (fr_len w p) hw)
  | false => rfl
section
variable {n out : Nat} {xs : List Deed}
theorem stays_ok : m_law_stays [rowD n xs out, nD n, .lst (xs.map Deed.d), nD out] = .ok (.bl true) := by
  have ri := row_inputs n xs out
  have ro : oattr ["Row"] "out" (rowD n xs out) = .ok (nD out) := rfl
  have rd := row_deeds n xs out
  have q1 := nat_eqN n n
  rw [decide_eq_true rfl] at q1
  have q2 := nat_eqN out out
  rw [decide_eq_true rfl] at q2
  have q3 := oeq_refl (deeds_plain xs)
  unfold m_law_stays
  rw [fn4]
  unfold b__law_stays
  generalize rowD n xs out = R at *
  generalize xs.map Deed.d = DS at *
  generalize nD n = N at *
  generalize nD out = OT at *
  simp [var, ri, ro, rd, q1, q2, q3]
def laB : SM := (seq (asg (gnm 7) (call m_count_zeros (argC (var 0) (argC (var 3) argN))))
  (seq (Py.ite (orT (notT (tst (call m_law_whole (argC (var 7) argN)))) (orT (tst (bin Py.one (var 7) (var 4))) (notT (tst (call m_law_stays (argC (var 0) (argC (bin oidx (var 1) (cst (.int 0))) (argC (bin oidx (var 1) (cst (.int 1))) (argC (bin oidx (var 1) (cst (.int 2))) argN))))))))) (ret (cst (.bl false))) skip)
  (Py.ite (orT (notT (tst (call m_law_is_reading (argC (call m_first_zero (argC (var 0) (argC (var 3) argN))) (argC (var 5) argN))))) (notT (tst (call m_law_stays (argC (var 0) (argC (bin oidx (var 1) (cst (.int 0))) (argC (bin oidx (var 1) (cst (.int 1))) (argC (bin oidx (var 1) (cst (.int 2))) argN)))))))) (ret (cst (.bl false))) skip)))
theorem asked_ok (h1 : 1 ≤ n) (h3 : n ≤ 3) (hr : Row n xs) (hz : n + xs.length ≤ 1000) (ho : out < n + xs.length) {room : Nat} (hp : prd (tops xs) ≤ room) (hm : room ≤ 1000) {w : Nat} (hw : w ≤ 1000) :
    m_law_asked [rowD n xs out, .tup [nD n, .lst (xs.map Deed.d), nD out], stD (ldK n xs out) (clA n xs room), nD w] = .ok (.bl true) := by
  have T := clA_tab (out := out) hr hz hp
  have hF := (clA_ok hr hz hp).2.2
  have hL : ∀ p ∈ clA n xs room, (ldK n xs out p).length ≤ 1000 := fun p _ => Nat.le_trans (ld_len h3 p) (by decide)
  have z1 := law_zeros_ok T (by omega) hw
  have z2 := law_first_ok T (by omega) hL hw
  have c1 := count_zeros_ok h1 h3 hr hz ho (by omega) hw
  have c2 := first_zero_ok h1 h3 hr hz ho (by omega) hw
  have ir := answer_ok (ld := ldK n xs out) hw (zer xs)
  have st := stays_ok (n := n) (out := out) (xs := xs)
  have wh := whole_ok (Zc (ldK n xs out) w (zer xs))
  have n1 : Py.one (nD (Zc (ldK n xs out) w (zer xs))) (nD (Zc (ldK n xs out) w (zer xs))) = .ok (.bl false) := by simp [nD]
  have j0 : ∀ a b c : D, oidx (.tup [a, b, c]) (.int 0) = .ok a := fun _ _ _ => rfl
  have j1 : ∀ a b c : D, oidx (.tup [a, b, c]) (.int 1) = .ok b := fun _ _ _ => rfl
  have j2 : ∀ a b c : D, oidx (.tup [a, b, c]) (.int 2) = .ok c := fun _ _ _ => rfl
  generalize ansZ (ldK n xs out) w (zer xs) = AN at *
  generalize dueZ (ldK n xs out) w (zer xs) = DU at *
  generalize nD (Zc (ldK n xs out) w (zer xs)) = ZZ at *
  generalize stD (ldK n xs out) (clA n xs room) = ST at *
  generalize rowD n xs out = R at *
  generalize xs.map Deed.d = DS at *
  generalize nD n = N at *
  generalize nD out = OT at *
  generalize nD w = W at *
  have step : ∀ (y : D) (o6 o7 : Option D), forB (gnm 6) laB y [some R, some (.tup [N, .lst DS, OT]), some ST, some W, some ZZ, some DU, o6, o7] = .ok (.next [some R, some (.tup [N, .lst DS, OT]), some ST, some W, some ZZ, some DU, some y, some ZZ]) := fun y o6 o7 => by
    show laB [some R, some (.tup [N, .lst DS, OT]), some ST, some W, some ZZ, some DU, some y, o7] = _
    unfold laB
    refine (asg_pass (d := ZZ) (by simp [var, c1])).trans ?_
    show seq _ _ [some R, some (.tup [N, .lst DS, OT]), some ST, some W, some ZZ, some DU, some y, some ZZ] = _
    simp [var, c2, ir, st, wh, n1, j0, j1, j2]
  have lp : forL (forB (gnm 6) laB) [.int 0, .int 1] [some R, some (.tup [N, .lst DS, OT]), some ST, some W, some ZZ, some DU, none, none] = .ok (.next [some R, some (.tup [N, .lst DS, OT]), some ST, some W, some ZZ, some DU, some (.int 1), some ZZ]) := by
    rw [forL, step, bind_ok]
    show forL (forB (gnm 6) laB) [.int 1] _ = _
    rw [forL, step, bind_ok]
    rfl
  unfold m_law_asked
  rw [fn4]
  show done (seq _ (seq _ (seq (for_ (irng1 (cst (.int 2))) (gnm 6) laB) _)) [some R, some (.tup [N, .lst DS, OT]), some ST, some W, none, none, none, none]) = _
  exact (congrArg done ((asg_pass (d := ZZ) (by simp [var, z1])).trans ((asg_pass (d := DU) (by simp [var, z2])).trans ((for_pass (xs := [.int 0, .int 1]) rfl lp).trans rfl)))).trans (done_ret (.bl true))
end
end Py.U
namespace Py.U
open PySem
/-! ### refusals -/
theorem tryX_exc {x : String} {es : List String} {i : Nat} {b : SM} {h : String → List (String × D) → SM} {e : Env} {fs : List (String × D)} {d : D} (h1 : b e = .exc x fs) (h2 : (es.contains x && decide (i < e.length)) = true) (h3 : h x fs (e.set i none) = .ok (.ret d)) : tryX x es i b h e = .ok (.ret d) := by
  unfold tryX
  rw [h1]
  show (if (es.contains x && decide (i < e.length)) = true then (if x = x then noexc (h x fs (e.set i none)) >>= sufE i else .exc x fs) else .stuck) = _
  rw [if_pos h2, if_pos rfl, h3]
  rfl
theorem exc_pass {c : TM} {r b : SM} {e : Env} {cl : String} {fs : List (String × D)} (h : c e = .ok true) (hb : b e = .exc cl fs) : seq (Py.ite c b skip) r e = .exc cl fs := by
  rw [seq_eq, ite_eq, h, bind_ok, if_pos rfl, hb]
  rfl
structure Wr (X : D) (b1 b2 b3 : Bool) : Prop where
  num : m_is_number [X] = .ok (.bl false)
  bl : oisi CS [.bl] X = .ok (.bl b1)
  st : oisi CS [.str] X = .ok (.bl b2)
  no : oisN X = .ok (.bl b3)
  eq : oeq X X = .ok (.bl true)
theorem cz_exc {X : D} {b1 b2 b3 : Bool} (h : Wr X b1 b2 b3) (R : D) : m_count_zeros [R, X] = .exc "InvalidNumber" [("value", X)] := by
  have hn := h.num
  unfold m_count_zeros
  rw [fn2]
  unfold b_count_zeros
  have q : ∀ r, seq (Py.ite (notT (tst (call m_is_number (argC (var 1) argN)))) (rais "InvalidNumber" ["value"] (argC (var 1) argN)) skip) r (some R :: some X :: List.replicate (7 - 2) none) = .exc "InvalidNumber" [("value", X)] := fun r => exc_pass (by simp [var, hn]) rfl
  rw [q]
  rfl
theorem fz_exc {X : D} {b1 b2 b3 : Bool} (h : Wr X b1 b2 b3) (R : D) : m_first_zero [R, X] = .exc "InvalidNumber" [("value", X)] := by
  have hn := h.num
  unfold m_first_zero
  rw [fn2]
  unfold b_first_zero
  have q : ∀ r, seq (Py.ite (notT (tst (call m_is_number (argC (var 1) argN)))) (rais "InvalidNumber" ["value"] (argC (var 1) argN)) skip) r (some R :: some X :: List.replicate (14 - 2) none) = .exc "InvalidNumber" [("value", X)] := fun r => exc_pass (by simp [var, hn]) rfl
  rw [q]
  rfl
theorem refused_ok {X : D} {b1 b2 b3 : Bool} (h : Wr X b1 b2 b3) (R : D) {t : D} (ht : t = .int 0 ∨ t = .int 1) : m_law_refused [t, R, X] = .ok (.bl true) := by
  have c1 := cz_exc h R
  have c2 := fz_exc h R
  have xf : ∀ e, xfld ES EFL "InvalidNumber" "value" [("value", X)] e = .ok X := fun _ => rfl
  have xi : ∀ e, xis ES EALL "InvalidNumber" ["CarryError"] e = .ok (.bl true) := fun _ => rfl
  have n1 : Py.one (.bl b1) (.bl b1) = .ok (.bl false) := by cases b1 <;> rfl
  have n2 : oeq (.bl b2) (.bl b2) = .ok (.bl true) := by cases b2 <;> rfl
  obtain ⟨_, hb, hs, hn, he⟩ := h
  unfold m_law_refused
  rw [fn3]
  unfold b__law_refused
  have hbo : Py.ite (tst (bin oeq (var 0) (cst (.int 0)))) (Py.drop (call m_count_zeros (argC (var 1) (argC (var 2) argN)))) (Py.drop (call m_first_zero (argC (var 1) (argC (var 2) argN)))) (some t :: some R :: some X :: List.replicate (4 - 3) none) = .exc "InvalidNumber" [("value", X)] := by
    rcases ht with rfl | rfl
    · simp [var, c1]
    · simp [var, c2]
  rw [seq_eq, tryX_exc (d := .bl true) hbo rfl ?_]
  · rfl
  · cases b3 with
    | true => simp [var, xf, xi, hb, hs, hn, he, n1, n2]
    | false => simp [var, xf, xi, hb, hs, hn, he, n1, n2]
theorem wr_bl (b : Bool) : Wr (.bl b) true false false := by
  cases b <;> exact ⟨rfl, rfl, rfl, rfl, rfl⟩
theorem wr_non : Wr .non false false true := ⟨rfl, rfl, rfl, rfl, rfl⟩
theorem wr_str : Wr (.str "3") false true false := ⟨rfl, rfl, rfl, rfl, rfl⟩
theorem wr_tup : Wr (.tup [.int 2]) false false false := ⟨rfl, rfl, rfl, rfl, rfl⟩
theorem wr_neg {z : Int} (h : z < 0) : Wr (.int z) false false false := by
  refine ⟨?_, rfl, rfl, rfl, ?_⟩
  · have h1 : m_is_integer [.int z] = .ok (.bl true) := by
      have h1 : oisi CS [.int] (.int z) = .ok (.bl true) := rfl
      have h2 : oisi CS [.bl] (.int z) = .ok (.bl false) := rfl
      unfold m_is_integer
      rw [fn1]
      unfold b_is_integer
      simp [var, h1, h2]
    have h2 : oge (.int z) (.int 0) = .ok (.bl false) := by
      rw [oge_ii, decide_eq_false (by omega)]
    unfold m_is_number
    rw [fn1]
    unfold b_is_number
    generalize Py.D.int z = Z at *
    simp [var, h1, h2]
  · rw [oeq_ii]
    simp
/-! ### draws, statements that give back -/
def RetP (Q : D → Prop) (f : Fl) : Prop := ∃ d, f = .ret d ∧ Q d
theorem done_r {Q : D → Prop} {r : Res Fl} (h : Always (RetP Q) r) : Always Q (done r) := Always.done (h.mono (by
  rintro f ⟨d, rfl, hd⟩
  exact hd))
theorem ret_r {Q : D → Prop} {m : EM} {e : Env} (h : Always Q (m e)) : Always (RetP Q) (ret m e) := by
  rw [ret_eq]
  exact h.bind fun d hd => ⟨d, rfl, hd⟩
theorem ret_1 {Q : D → Prop} {m : EM} {e : Env} {d : D} (h : m e = .ok d) (hd : Q d) : Always (RetP Q) (ret m e) := ret_r (by rw [h]; exact hd)
theorem ite_ret {Q : D → Prop} {t : TM} {b r : SM} {e : Env} (ht : t e = .ok true) (hb : Always (RetP Q) (b e)) : Always (RetP Q) (seq (Py.ite t b skip) r e) := by
  rw [seq_eq, ite_eq, ht, bind_ok, if_pos rfl]
  refine hb.bind ?_
  rintro f ⟨d, rfl, hd⟩
  exact ⟨d, rfl, hd⟩
theorem chk_p1 {P : Fl → Prop} {t : TM} {b r : SM} {e : Env} (ht : t e = .ok false) (k : Always P (r e)) : Always P (seq (Py.ite t b skip) r e) := by
  rw [chk_pass ht]
  exact k
theorem chk_a {P : Fl → Prop} {t : TM} {b r : SM} {e : Env} (ht : Always (fun c => c = false) (t e)) (k : Always P (r e)) : Always P (seq (Py.ite t b skip) r e) := by
  refine seq_a (I := fun e' => e' = e) ?_ (by rintro _ rfl; exact k)
  rw [ite_eq]
  refine ht.bind ?_
  rintro _ rfl
  exact ⟨e, rfl, rfl⟩
theorem ite_any {P : Fl → Prop} {t : TM} {a b : SM} {e : Env} (ht : Always (fun _ => True) (t e)) (h1 : Always P (a e)) (h2 : Always P (b e)) : Always P (Py.ite t a b e) := by
  rw [ite_eq]
  refine ht.bind fun c _ => ?_
  cases c
  · exact h2
  · exact h1
theorem asg_d {P : Fl → Prop} {i : Nat} {m : EM} {r : SM} {e : Env} {d : D} (h : m e = .ok d) (k : Always P (r (e.set i (some d)))) : Always P (seq (asg (gnm i) m) r e) := by
  rw [asg_pass h]
  exact k
/-- pick(many) == 0 -/
theorem pick0 {e : Env} {i : Nat} (n : Nat) (h : e[i]? = some (some (.drw (.inl false)))) (h0 : 0 < n) (h1 : n < 1000000) : Always (fun _ => True) (tst (bin oeq (call m_law_pick (argC (var i) (argC (cst (nD n)) argN))) (cst (.int 0))) e) := by
  rw [tst_eq, bin_eq]
  refine ((pickc (Q := fun d => ∃ k : Nat, d = nD k) n h rfl rfl h0 h1 fun k _ => ⟨k, rfl⟩).bind (Q := fun d => ∃ k : Nat, d = nD k) ?_).bind (Q := fun d => ∃ c : Bool, d = .bl c) ?_
  · rintro _ ⟨k, rfl⟩
    rw [cst_eq, bind_ok]
    have := nat_eq k 0
    have this' : oeq (nD k) (.int 0) = .ok (.bl (decide (k = 0))) := this
    rw [this']
    exact ⟨_, rfl⟩
  · rintro _ ⟨c, rfl⟩
    trivial
/-! ### deeds drawn -/
abbrev poolD : D := .drw (.inl false)
def DeedP (k : Nat) (d : D) : Prop := ∃ x : Deed, d = x.d ∧ x.ok k
def nmT : D := .tup [.str "and", .str "add", .str "sub", .str "minus", .str "shift", .str "count", .str "and", .str "or", .str "xor", .str "not", .str "zero", .str "ones"]
def deC : SM := (seq (asg (gnm 5) (bin oidx (tupE (argC (cst (.int 2)) (argC (cst (.int 3)) (argC (cst (.int 5)) argN)))) (call m_law_pick (argC (var 0) (argC (cst (.int 3)) argN)))))
  (seq (asg (gnm 6) (call m_law_pick (argC (var 0) (argC (var 5) argN))))
  (seq (asg (gnm 7) (lstE (argC (var 4) argN)))
  (seq (for_ (irng1 (call m_law_pick (argC (var 0) (argC (cst (.int 4)) argN)))) (gnm 8) (app 7 (call m_law_pick (argC (var 0) (argC (var 1) argN)))))
  (ret (tupE (argC (var 3) (argC (var 5) (argC (var 6) (argC (un btuple (var 7)) argN))))))))))
def deT : SM := (seq (Py.ite (tst (bin oin (var 3) (tupE (argC (cst (.str "not")) (argC (cst (.str "shift")) (argC (cst (.str "minus")) argN)))))) (ret (tupE (argC (var 3) (argC (var 4) argN)))) skip)
  (seq (Py.ite (tst (bin oeq (var 3) (cst (.str "count")))) deC skip)
  (ret (tupE (argC (var 3) (argC (var 4) (argC (call m_law_pick (argC (var 0) (argC (var 1) argN))) argN)))))))
abbrev dE (k : Nat) (s : String) (a : Nat) : Env := [some poolD, some (nD k), some nmT, some (.str s), some (nD a), none, none, none, none]
theorem de_count {k a : Nat} (hk : 0 < k) (hk2 : k ≤ 1000) (ha : a < k) : Always (RetP (DeedP k)) (deC (dE k "count" a)) := by
  unfold deC
  refine asg_a (Q := fun d => ∃ p : Nat, d = nD p ∧ (p = 2 ∨ p = 3 ∨ p = 5)) ?_ ?_
  · rw [bin_eq]
    show Always _ (Res.ok (Py.D.tup [.int 2, .int 3, .int 5]) >>= fun x => call m_law_pick (argC (var 0) (argC (cst (.int 3)) argN)) (dE k "count" a) >>= fun y => oidx x y)
    rw [bind_ok]
    refine (pickc (Q := fun d => ∃ i : Nat, i < 3 ∧ d = nD i) 3 rfl rfl rfl (by omega) (by omega) fun i hi => ⟨i, hi, rfl⟩).bind ?_
    rintro _ ⟨i, hi, rfl⟩
    have : i = 0 ∨ i = 1 ∨ i = 2 := by omega
    rcases this with rfl | rfl | rfl
    · exact ⟨2, rfl, .inl rfl⟩
    · exact ⟨3, rfl, .inr (.inl rfl)⟩
    · exact ⟨5, rfl, .inr (.inr rfl)⟩
  rintro _ ⟨p, rfl, hp⟩
  refine asg_a (Q := fun d => ∃ r : Nat, d = nD r ∧ r < p) ?_ ?_
  · exact pickc p rfl rfl rfl (by omega) (by omega) fun i hi => ⟨i, rfl, hi⟩
  rintro _ ⟨r, rfl, hr⟩
  refine asg_d (d := .lst [nD a]) rfl ?_
  refine seq_a (I := fun e => ∃ (ps : List Nat) (o8 : Option D), 1 ≤ ps.length ∧ ps.length ≤ 4 ∧ (∀ x ∈ ps, x < k) ∧ e = [some poolD, some (nD k), some nmT, some (.str "count"), some (nD a), some (nD p), some (nD r), some (.lst (ps.map nD)), o8]) ?_ ?_
  · rw [for_eq]
    refine Always.bind (Q := fun ys => ∃ c : Nat, c < 4 ∧ ys = (List.range c).map nD) ?_ ?_
    · unfold irng1
      refine (pickc (Q := fun d => ∃ c : Nat, c < 4 ∧ d = nD c) 4 rfl rfl rfl (by omega) (by omega) fun i hi => ⟨i, hi, rfl⟩).bind ?_
      rintro _ ⟨c, hc, rfl⟩
      show Always _ (if ((c : Nat) : Int).natAbs < B62 then Res.ok (rngL 0 ((c : Nat) : Int)) else .stuck)
      rw [if_pos (Nat.lt_of_lt_of_le (show ((c : Nat) : Int).natAbs < 4 by omega) (by decide))]
      exact ⟨c, hc, rng_map c⟩
    · rintro _ ⟨c, hc, rfl⟩
      refine (forR_a (fun j e => ∃ (ps : List Nat) (o8 : Option D), ps.length = 1 + j ∧ (∀ x ∈ ps, x < k) ∧ e = [some poolD, some (nD k), some nmT, some (.str "count"), some (nD a), some (nD p), some (nD r), some (.lst (ps.map nD)), o8]) ⟨[a], none, rfl, fun x hx => by rw [List.mem_singleton.mp hx]; exact ha, rfl⟩ ?_).mono ?_
      · rintro j _ hj ⟨ps, o8, h1, h2, rfl⟩
        show Always _ (app 7 _ [some poolD, some (nD k), some nmT, some (.str "count"), some (nD a), some (nD p), some (nD r), some (.lst (ps.map nD)), some (nD j)])
        rw [app_eq, var_eq (d := .lst (ps.map nD)) rfl, bind_ok]
        refine (pickc (Q := fun d => ∃ b : Nat, b < k ∧ d = nD b) k rfl rfl rfl hk (by omega) fun i hi => ⟨i, hi, rfl⟩).bind ?_
        rintro _ ⟨b, hb, rfl⟩
        show Always _ (if (ps.map nD).length < SZ then _ else _)
        rw [if_pos (by rw [List.length_map, h1]; exact Nat.lt_of_le_of_lt (show 1 + j ≤ 5 by omega) (by decide))]
        refine ⟨_, rfl, ps ++ [b], some (nD j), by simp [h1]; omega, fun x hx => ?_, by rw [List.map_append]; rfl⟩
        rcases List.mem_append.mp hx with hx | hx
        · exact h2 x hx
        · rw [List.mem_singleton.mp hx]; exact hb
      · rintro _ ⟨_, rfl, ps, o8, h1, h2, rfl⟩
        exact ⟨_, rfl, ps, o8, by omega, by omega, h2, rfl⟩
  rintro _ ⟨ps, o8, h1, h4, hps, rfl⟩
  exact ret_1 (d := (Deed.count p r ps).d) rfl ⟨.count p r ps, rfl, hp, hr, h1, h4, hps⟩
theorem de_tail {k a : Nat} (hk : 0 < k) (hk2 : k ≤ 1000) (ha : a < k) {s : String} (hs : s ∈ ["and", "add", "sub", "minus", "shift", "count", "or", "xor", "not"]) : Always (RetP (DeedP k)) (deT (dE k s a)) := by
  have two : ∀ (s : String) (f : Nat → Deed), (∀ b, (f b).d = .tup [.str s, nD a, nD b]) → (∀ b, b < k → (f b).ok k) → Always (RetP (DeedP k)) (ret (tupE (argC (var 3) (argC (var 4) (argC (call m_law_pick (argC (var 0) (argC (var 1) argN))) argN)))) (dE k s a)) := fun s f hf ho => by
    refine ret_r ?_
    rw [tupE_eq]
    refine Always.bind (Q := fun xs => ∃ b : Nat, b < k ∧ xs = [.str s, nD a, nD b]) ?_ ?_
    · rw [argC_eq, var_eq (d := .str s) rfl, bind_ok, argC_eq, var_eq (d := nD a) rfl, bind_ok, argC_eq]
      refine Always.bind (Q := fun xs => ∃ b : Nat, b < k ∧ xs = [nD a, nD b]) (Always.bind (Q := fun xs => ∃ b : Nat, b < k ∧ xs = [nD b]) ((pickc (Q := fun d => ∃ b : Nat, b < k ∧ d = nD b) k rfl rfl rfl hk (by omega) fun i hi => ⟨i, hi, rfl⟩).bind ?_) ?_) ?_
      · rintro _ ⟨b, hb, rfl⟩
        exact ⟨b, hb, rfl⟩
      · rintro _ ⟨b, hb, rfl⟩
        exact ⟨b, hb, rfl⟩
      · rintro _ ⟨b, hb, rfl⟩
        exact ⟨b, hb, rfl⟩
    · rintro _ ⟨b, hb, rfl⟩
      exact ⟨f b, (hf b).symm, ho b hb⟩
  unfold deT
  simp only [List.mem_cons, List.not_mem_nil, or_false] at hs
  rcases hs with rfl | rfl | rfl | rfl | rfl | rfl | rfl | rfl | rfl
  · exact chk_p1 rfl (chk_p1 rfl (two "and" (.and a) (fun b => rfl) fun b hb => ⟨ha, hb⟩))
  · exact chk_p1 rfl (chk_p1 rfl (two "add" (.add a) (fun b => rfl) fun b hb => ⟨ha, hb⟩))
  · exact chk_p1 rfl (chk_p1 rfl (two "sub" (.sub a) (fun b => rfl) fun b hb => ⟨ha, hb⟩))
  · exact ite_ret rfl (ret_1 (d := (Deed.minus a).d) rfl ⟨.minus a, rfl, ha⟩)
  · exact ite_ret rfl (ret_1 (d := (Deed.shift a).d) rfl ⟨.shift a, rfl, ha⟩)
  · exact chk_p1 rfl (ite_ret rfl (de_count hk hk2 ha))
  · exact chk_p1 rfl (chk_p1 rfl (two "or" (.or a) (fun b => rfl) fun b hb => ⟨ha, hb⟩))
  · exact chk_p1 rfl (chk_p1 rfl (two "xor" (.xor a) (fun b => rfl) fun b hb => ⟨ha, hb⟩))
  · exact ite_ret rfl (ret_1 (d := (Deed.inv a).d) rfl ⟨.inv a, rfl, ha⟩)
theorem deed_ok {k : Nat} (hk : 0 < k) (hk2 : k ≤ 1000) : Always (DeedP k) (m_law_deed [poolD, nD k]) := by
  unfold m_law_deed
  rw [fn2]
  refine done_r ?_
  show Always _ (seq (asg (gnm 2) _) (seq (asg (gnm 3) _) (seq _ (seq (asg (gnm 4) _) (seq (Py.ite _ _ skip) deT)))) [some poolD, some (nD k), none, none, none, none, none, none, none])
  refine asg_d (d := nmT) rfl ?_
  refine asg_a (Q := fun d => d ∈ [D.str "zero", .str "ones"] ∨ ∃ s, d = .str s ∧ s ∈ ["and", "add", "sub", "minus", "shift", "count", "or", "xor", "not"]) ?_ ?_
  · rw [bin_eq]
    show Always _ (Res.ok nmT >>= fun x => call m_law_pick (argC (var 0) (argC (cst (.int 12)) argN)) [some poolD, some (nD k), some nmT, none, none, none, none, none, none] >>= fun y => oidx x y)
    rw [bind_ok]
    refine (pickc (Q := fun d => ∃ i : Nat, i < 12 ∧ d = nD i) 12 rfl rfl rfl (by omega) (by omega) fun i hi => ⟨i, hi, rfl⟩).bind ?_
    rintro _ ⟨i, hi, rfl⟩
    have : i = 0 ∨ i = 1 ∨ i = 2 ∨ i = 3 ∨ i = 4 ∨ i = 5 ∨ i = 6 ∨ i = 7 ∨ i = 8 ∨ i = 9 ∨ i = 10 ∨ i = 11 := by omega
    rcases this with rfl | rfl | rfl | rfl | rfl | rfl | rfl | rfl | rfl | rfl | rfl | rfl
    · exact .inr ⟨"and", rfl, by simp⟩
    · exact .inr ⟨"add", rfl, by simp⟩
    · exact .inr ⟨"sub", rfl, by simp⟩
    · exact .inr ⟨"minus", rfl, by simp⟩
    · exact .inr ⟨"shift", rfl, by simp⟩
    · exact .inr ⟨"count", rfl, by simp⟩
    · exact .inr ⟨"and", rfl, by simp⟩
    · exact .inr ⟨"or", rfl, by simp⟩
    · exact .inr ⟨"xor", rfl, by simp⟩
    · exact .inr ⟨"not", rfl, by simp⟩
    · exact .inl (List.mem_cons_self)
    · exact .inl (List.mem_cons_of_mem _ List.mem_cons_self)
  rintro d (hd | ⟨s, rfl, hs⟩)
  · rcases List.mem_cons.mp hd with rfl | hd
    · exact ite_ret rfl (ret_1 (d := Deed.zero.d) rfl ⟨.zero, rfl, trivial⟩)
    · rw [List.mem_singleton.mp hd]
      exact ite_ret rfl (ret_1 (d := Deed.ones.d) rfl ⟨.ones, rfl, trivial⟩)
  refine chk_p1 ?_ ?_
  · simp only [List.mem_cons, List.not_mem_nil, or_false] at hs
    rcases hs with rfl | rfl | rfl | rfl | rfl | rfl | rfl | rfl | rfl <;> rfl
  refine asg_a (Q := fun d => ∃ a : Nat, d = nD a ∧ a < k) (pickc k rfl rfl rfl hk (by omega) fun i hi => ⟨i, rfl, hi⟩) ?_
  rintro _ ⟨a, rfl, ha⟩
  refine seq_a (I := fun e => ∃ a : Nat, a < k ∧ e = dE k s a) (ite_any (pick0 3 rfl (by omega) (by omega)) ?_ ⟨_, rfl, a, ha, rfl⟩) ?_
  · have hs := nsub (a := k) (b := 1) hk
    refine asg_1 (Q := fun d => d = nD (k - 1)) ?_ ?_
    · have h : bin osub (var 1) (cst (.int 1)) (dE k s a) = .ok (nD (k - 1)) := hs
      show Always _ (bin osub (var 1) (cst (.int 1)) (dE k s a))
      rw [h]
      rfl
    · rintro _ rfl
      exact ⟨_, rfl, k - 1, by omega, rfl⟩
  rintro _ ⟨a, ha, rfl⟩
  exact de_tail hk hk2 ha hs
end Py.U
namespace Py.U
open PySem
/-! ### a row from a list of deeds -/
theorem row_loop_l {n : Nat} {xs : List Deed} (hr : Row n xs) {S I O T T0 : D} (hI : I = nD n) : ∃ e', forL (forB (gtup [(gnm 5), (gnm 6)]) (Py.ite (notT (tst (call m_is_deed (argC (var 6) (argC (bin oadd (var 1) (var 5)) argN))))) (rais "InvalidRow" ["part", "place"] (argC (cst (.str "deeds")) (argC (var 5) argN))) skip)) (enumL 0 (xs.map Deed.d)) [some S, some I, some T0, some O, some T, none, none] = .ok (.next e') ∧
    ∃ o5 o6, e' = [some S, some I, some T0, some O, some T, o5, o6] := by
  refine forL_inv (fun k e => ∃ o5 o6, e = [some S, some I, some T0, some O, some T, o5, o6]) 0 ⟨none, none, rfl⟩ ?_
  rintro k e hk ⟨o5, o6, rfl⟩
  have hk2 : k < xs.length := by
    rw [enum_len, List.length_map] at hk
    exact hk
  have q := is_deed_ok (hr k hk2)
  have q2 : oadd I (.int (k : Int)) = .ok (nD (n + k)) := by
    rw [hI]
    unfold nD
    rw [oadd_ii]
    simp
  rw [enum_at hk (by simpa using hk2), List.getElem_map, Nat.zero_add]
  generalize nD (n + k) = Z at *
  generalize hX : xs[k].d = X at *
  generalize (k : Int) = z at *
  exact ⟨[some S, some I, some T0, some O, some T, some (.int z), some X], by simp [var, gtup, gtupL, q, q2], _, _, rfl⟩
theorem row_made_l {n out : Nat} {xs : List Deed} (h1 : 1 ≤ n) (h3 : n ≤ 3) (hr : Row n xs) (hz : xs.length ≤ 1000) (ho : out < n + xs.length) : m_Row [nD n, .lst (xs.map Deed.d), nD out] = .ok (rowD n xs out) := by
  have q1 := inputs_ok h1 h3
  have q2 := as_tup (xs.map Deed.d)
  have q3 : oisN (.tup (xs.map Deed.d)) = .ok (.bl false) := rfl
  obtain ⟨e', q4, o5, o6, rfl⟩ := row_loop_l (S := .ins "Row" []) (O := nD out) (T := .tup (xs.map Deed.d)) (T0 := .lst (xs.map Deed.d)) hr (I := nD n) rfl
  have q5 := is_below_ok out (n + xs.length)
  rw [decide_eq_true ho] at q5
  have q6 : oadd (nD n) (.int ((xs.map Deed.d).length : Int)) = .ok (nD (n + xs.length)) := by
    unfold nD
    rw [oadd_ii, List.length_map]
    simp
  have q7 : ienum (var 4) [some (.ins "Row" []), some (nD n), some (.lst (xs.map Deed.d)), some (nD out), some (.tup (xs.map Deed.d)), none, none] = .ok (enumL 0 (xs.map Deed.d)) := rfl
  have key : b_Row_init [some (.ins "Row" []), some (nD n), some (.lst (xs.map Deed.d)), some (nD out), none, none, none] = .ok (.next [some (rowD n xs out), some (nD n), some (.lst (xs.map Deed.d)), some (nD out), some (.tup (xs.map Deed.d)), o5, o6]) := by
    unfold b_Row_init rowD
    generalize xs.map Deed.d = Z at *
    generalize nD (n + xs.length) = M at *
    generalize nD n = N at *
    generalize nD out = U at *
    simp [var, q1, q2, q3, q4, q5, q6, q7, setF, putF]
  exact made_eq rfl key
end Py.U
namespace Py.U
open PySem
/-! ### deeds drawn, one behind the other -/
theorem foldr_mul_snoc : ∀ (ws : List Nat) (w : Nat), (ws ++ [w]).foldr (· * ·) 1 = ws.foldr (· * ·) 1 * w
  | [], w => by simp
  | v :: ws, w => by
    rw [List.cons_append, List.foldr_cons, List.foldr_cons, foldr_mul_snoc ws w, Nat.mul_assoc]
theorem prd_snoc (xs : List Deed) (x : Deed) : prd (tops (xs ++ [x])) = prd (tops xs) * x.wt := by
  rw [prd_wt, prd_wt, List.map_append]
  exact foldr_mul_snoc _ _
theorem wt_le {n : Nat} {x : Deed} (h : x.ok n) : 1 ≤ x.wt ∧ x.wt ≤ 5 := by
  unfold Deed.wt
  cases x with
  | count p r ps =>
    obtain ⟨hp, _⟩ := h
    show 1 ≤ p ∧ p ≤ 5
    omega
  | _ => simp [Deed.marked, Deed.top]
theorem app_a {P : Fl → Prop} {Q : D → Prop} {i : Nat} {m : EM} {e : Env} {xs : List D} (h : e[i]? = some (some (.lst xs))) (hz : xs.length < SZ) (hm : Always Q (m e)) (k : ∀ d, Q d → P (.next (e.set i (some (.lst (xs ++ [d])))))) : Always P (app i m e) := by
  rw [app_eq, var_eq h, bind_ok]
  refine hm.bind fun d hd => ?_
  show Always P (if xs.length < SZ then _ else _)
  rw [if_pos hz]
  exact k d hd
theorem ogt_n (a b : Nat) : ogt (nD a) (nD b) = .ok (.bl (decide (b < a))) := oltN b a
theorem fdiv_n {a b : Nat} (h0 : 0 < b) (h1 : b < 1000000) : ofdiv (nD a) (nD b) = .ok (nD (a / b)) := by
  unfold nD
  rw [ofdiv_ii (by omega)]
  simp
def ldS : SM := (Py.ite (tst (bin ogt (call m_law_weight (argC (var 6) argN)) (var 3))) (asg (gnm 6) (tupE (argC (bin oidx (tupE (argC (cst (.str "and")) (argC (cst (.str "xor")) argN))) (call m_law_pick (argC (var 0) (argC (cst (.int 2)) argN)))) (argC (call m_law_pick (argC (var 0) (argC (bin oadd (var 1) (var 5)) argN))) (argC (bin osub (bin oadd (var 1) (var 5)) (cst (.int 1))) argN))))) skip)
def ldT : SM := (seq (asg (gnm 3) (bin ofdiv (var 3) (call m_law_weight (argC (var 6) argN))))
  (app 4 (var 6)))
def ldB : SM := (seq (asg (gnm 6) (call m_law_deed (argC (var 0) (argC (bin oadd (var 1) (var 5)) argN)))) (seq ldS ldT))
abbrev ldE (n sz rm : Nat) (xs : List Deed) (o5 o6 : Option D) : Env := [some poolD, some (nD n), some (nD sz), some (nD rm), some (.lst (xs.map Deed.d)), o5, o6]
theorem ld_other {n sz rm k : Nat} {xs : List Deed} {o6 : Option D} (hk : 0 < n + k) (hk2 : n + k ≤ 1000) : Always (NX fun e => ∃ x : Deed, x.ok (n + k) ∧ x.wt = 1 ∧ e = ldE n sz rm xs (some (nD k)) (some x.d)) (asg (gnm 6) (tupE (argC (bin oidx (tupE (argC (cst (.str "and")) (argC (cst (.str "xor")) argN))) (call m_law_pick (argC (var 0) (argC (cst (.int 2)) argN)))) (argC (call m_law_pick (argC (var 0) (argC (bin oadd (var 1) (var 5)) argN))) (argC (bin osub (bin oadd (var 1) (var 5)) (cst (.int 1))) argN)))) (ldE n sz rm xs (some (nD k)) o6)) := by
  have ha := nadd n k
  have hs := nsub (a := n + k) (b := 1) hk
  refine asg_1 (Q := fun d => ∃ x : Deed, x.ok (n + k) ∧ x.wt = 1 ∧ d = x.d) ?_ ?_
  · rw [tupE_eq]
    refine Always.bind (Q := fun ys => ∃ (s : Bool) (a : Nat), a < n + k ∧ ys = [.str (if s then "and" else "xor"), nD a, nD (n + k - 1)]) ?_ ?_
    · rw [argC_eq]
      refine Always.bind (Q := fun d => ∃ s : Bool, d = .str (if s then "and" else "xor")) ?_ ?_
      · rw [bin_eq]
        show Always _ (Res.ok (Py.D.tup [.str "and", .str "xor"]) >>= fun x => call m_law_pick (argC (var 0) (argC (cst (.int 2)) argN)) (ldE n sz rm xs (some (nD k)) o6) >>= fun y => oidx x y)
        rw [bind_ok]
        refine (pickc (Q := fun d => ∃ i : Nat, i < 2 ∧ d = nD i) 2 rfl rfl rfl (by omega) (by omega) fun i hi => ⟨i, hi, rfl⟩).bind ?_
        rintro _ ⟨i, hi, rfl⟩
        have : i = 0 ∨ i = 1 := by omega
        rcases this with rfl | rfl
        · exact ⟨true, rfl⟩
        · exact ⟨false, rfl⟩
      · rintro _ ⟨s, rfl⟩
        rw [argC_eq]
        refine Always.bind (Q := fun ys => ∃ a : Nat, a < n + k ∧ ys = [nD a, nD (n + k - 1)]) ?_ ?_
        · refine Always.bind (Q := fun d => ∃ a : Nat, a < n + k ∧ d = nD a) ?_ ?_
          · refine pickc (n + k) rfl (d := nD (n + k)) ?_ rfl hk (by omega) fun i hi => ⟨i, hi, rfl⟩
            exact ha
          · rintro _ ⟨a, hl, rfl⟩
            have e1 : argC (bin osub (bin oadd (var 1) (var 5)) (cst (.int 1))) argN (ldE n sz rm xs (some (nD k)) o6) = .ok [nD (n + k - 1)] := by
              show (oadd (nD n) (nD k) >>= fun x => osub x (nD 1)) >>= _ = _
              rw [ha, bind_ok, hs]
              rfl
            rw [e1]
            exact ⟨a, hl, rfl⟩
        · rintro _ ⟨a, hl, rfl⟩
          exact ⟨s, a, hl, rfl⟩
    · rintro _ ⟨s, a, hl, rfl⟩
      cases s
      · exact ⟨.xor a (n + k - 1), ⟨hl, by omega⟩, rfl, rfl⟩
      · exact ⟨.and a (n + k - 1), ⟨hl, by omega⟩, rfl, rfl⟩
  · rintro _ ⟨x, h1, h2, rfl⟩
    exact ⟨_, rfl, x, h1, h2, rfl⟩
theorem ld_step {n sz rm k : Nat} {xs : List Deed} {o6 : Option D} (hk : 0 < n + k) (hk2 : n + k ≤ 1000) (hr : 1 ≤ rm) : Always (NX fun e => ∃ x : Deed, x.ok (n + k) ∧ x.wt ≤ rm ∧ e = ldE n sz rm xs (some (nD k)) (some x.d)) (seq (asg (gnm 6) (call m_law_deed (argC (var 0) (argC (bin oadd (var 1) (var 5)) argN)))) ldS (ldE n sz rm xs (some (nD k)) o6)) := by
  have ha := nadd n k
  refine asg_a (Q := DeedP (n + k)) ?_ ?_
  · have e1 : call m_law_deed (argC (var 0) (argC (bin oadd (var 1) (var 5)) argN)) (ldE n sz rm xs (some (nD k)) o6) = m_law_deed [poolD, nD (n + k)] := by
      show (Res.ok poolD >>= fun x => (oadd (nD n) (nD k) >>= fun y => Res.ok [y]) >>= fun ys => Res.ok (x :: ys)) >>= m_law_deed = _
      rw [ha]
      rfl
    rw [e1]
    exact deed_ok hk hk2
  · rintro _ ⟨x, rfl, hx⟩
    have hw := weight_ok x
    have hg := ogt_n x.wt rm
    refine ite_a (c := decide (rm < x.wt)) ?_ (fun _ => ?_) fun h => ?_
    · show (m_law_weight [x.d] >>= fun y => ogt y (nD rm)) >>= truthy = _
      rw [hw, bind_ok, hg]
      rfl
    · refine (ld_other (o6 := some x.d) hk hk2).mono ?_
      rintro _ ⟨e, rfl, y, h1, h2, rfl⟩
      exact ⟨_, rfl, y, h1, by omega, rfl⟩
    · have : ¬ rm < x.wt := of_decide_eq_false h
      exact ⟨_, rfl, x, hx, by omega, rfl⟩
theorem ld_body {n sz rm k room : Nat} {xs : List Deed} {o5 o6 : Option D} (hn : 1 ≤ n) (hk2 : n + k ≤ 1000) (hl : xs.length = k) (hr : 1 ≤ rm) (hx : Row n xs) (hp : prd (tops xs) * rm ≤ room) :
    Always (NX fun e => ∃ (ys : List Deed) (rm' : Nat) (o5 o6 : Option D), ys.length = k + 1 ∧ Row n ys ∧ 1 ≤ rm' ∧ prd (tops ys) * rm' ≤ room ∧ e = ldE n sz rm' ys o5 o6) (forB (gnm 5) ldB (nD k) (ldE n sz rm xs o5 o6)) := by
  show Always _ (ldB (ldE n sz rm xs (some (nD k)) o6))
  unfold ldB
  have e0 : ∀ (a b c : SM) (e : Env), seq a (seq b c) e = seq (seq a b) c e := by
    intro a b c e
    simp only [seq_eq]
    cases a e with
    | ok f => cases f <;> rfl
    | exc c fs => rfl
    | stuck => rfl
    | pick m g =>
      simp only [bind_pick]
      congr 1
      funext i
      have : ∀ r : Res Fl, (r >>= fun f => match f with | .next e' => (b e' >>= fun f => match f with | .next e' => c e' | r => .ok r) | r => .ok r) = ((r >>= fun f => match f with | .next e' => b e' | r => .ok r) >>= fun f => match f with | .next e' => c e' | r => .ok r) := by
        intro r
        induction r with
        | ok f => cases f <;> rfl
        | exc c fs => rfl
        | stuck => rfl
        | pick m g ih =>
          simp only [bind_pick]
          congr 1
          funext i
          exact ih i
      exact this (g i)
  rw [e0]
  refine seq_a (ld_step (by omega) hk2 hr) ?_
  rintro _ ⟨x, hx1, hx2, rfl⟩
  have hw := weight_ok x
  obtain ⟨w1, w5⟩ := wt_le hx1
  have hd := fdiv_n (a := rm) (b := x.wt) w1 (by omega)
  unfold ldT
  refine asg_d (d := nD (rm / x.wt)) ?_ ?_
  · show (Res.ok (nD rm) >>= fun a => m_law_weight [x.d] >>= fun b => ofdiv a b) = _
    rw [bind_ok, hw, bind_ok, hd]
  · show Always _ (app 4 (var 6) (ldE n sz (rm / x.wt) xs (some (nD k)) (some x.d)))
    refine app_a (Q := fun d => d = x.d) (xs := xs.map Deed.d) rfl (by rw [List.length_map, hl]; exact Nat.lt_of_le_of_lt (show k ≤ 1000 by omega) (by decide)) rfl ?_
    rintro _ rfl
    refine ⟨_, rfl, xs ++ [x], rm / x.wt, some (nD k), some x.d, by simp [hl], hx.snoc (by rw [hl]; exact hx1), ?_, ?_, ?_⟩
    · exact (Nat.le_div_iff_mul_le w1).mpr (by omega)
    · rw [prd_snoc, Nat.mul_assoc]
      exact Nat.le_trans (Nat.mul_le_mul_left _ (Nat.mul_div_le rm x.wt)) hp
    · simp only [ldE, List.map_append]
      rfl
theorem deeds_ok {n sz room : Nat} (hn : 1 ≤ n) (hz : n + sz ≤ 1000) (hr : 1 ≤ room) : Always (fun d => ∃ xs : List Deed, d = .lst (xs.map Deed.d) ∧ xs.length = sz ∧ Row n xs ∧ prd (tops xs) ≤ room) (m_law_deeds [poolD, nD n, nD sz, nD room]) := by
  unfold m_law_deeds
  rw [fn4]
  refine done_r ?_
  unfold b__law_deeds
  show Always _ (seq (asg (gnm 4) (lstE argN)) (seq (for_ (irng1 (var 2)) (gnm 5) ldB) (ret (var 4))) [some poolD, some (nD n), some (nD sz), some (nD room), none, none, none])
  refine asg_d (d := .lst []) rfl ?_
  refine for_s (I := fun e => ∃ (ys : List Deed) (rm' : Nat) (o5 o6 : Option D), ys.length = sz ∧ Row n ys ∧ 1 ≤ rm' ∧ prd (tops ys) * rm' ≤ room ∧ e = ldE n sz rm' ys o5 o6) (irng_n (n := sz) rfl (by omega)) ?_ ?_
  · refine forR_a (fun k e => ∃ (ys : List Deed) (rm' : Nat) (o5 o6 : Option D), ys.length = k ∧ Row n ys ∧ 1 ≤ rm' ∧ prd (tops ys) * rm' ≤ room ∧ e = ldE n sz rm' ys o5 o6) ⟨[], room, none, none, rfl, fun k hk => absurd hk (by simp), hr, by show 1 * room ≤ room; omega, rfl⟩ ?_
    rintro k _ hk ⟨ys, rm', o5, o6, h1, h2, h3, h4, rfl⟩
    exact ld_body hn (by omega) h1 h3 h2 h4
  · rintro _ ⟨ys, rm', o5, o6, h1, h2, h3, h4, rfl⟩
    refine ret_1 (d := .lst (ys.map Deed.d)) rfl ⟨ys, rfl, h1, h2, ?_⟩
    have : prd (tops ys) * 1 ≤ prd (tops ys) * rm' := Nat.mul_le_mul_left _ h3
    omega
end Py.U
namespace Py.U
open PySem
/-! ### the whole law -/
theorem argC_k {P : List D → Prop} {a : EM} {r : AM} {e : Env} {d : D} (h : a e = .ok d) (k : Always (fun ds => P (d :: ds)) (r e)) : Always P (argC a r e) := by
  rw [argC_eq, h, bind_ok]
  exact k.bind fun ds hd => hd
theorem argC_l {P : List D → Prop} {Q : D → Prop} {a : EM} {e : Env} (h : Always Q (a e)) (k : ∀ d, Q d → P [d]) : Always P (argC a argN e) := by
  rw [argC_eq]
  exact h.bind fun d hd => k d hd
theorem tstN {c : EM} {e : Env} (h : Always (fun d => d = .bl true) (c e)) : Always (fun b => b = false) (notT (tst c) e) := by
  rw [notT_eq, tst_eq]
  refine (h.bind (P := fun b => b = true) ?_).bind ?_
  · rintro _ rfl
    rfl
  · rintro _ rfl
    rfl
theorem orT_a {a b : TM} {e : Env} (h1 : Always (fun c => c = false) (a e)) (h2 : Always (fun c => c = false) (b e)) : Always (fun c => c = false) (orT a b e) := by
  rw [orT_eq]
  refine h1.bind ?_
  rintro _ rfl
  exact h2
theorem call_a {P : D → Prop} {Q : List D → Prop} {f : List D → Res D} {a : AM} {e : Env} (h : Always Q (a e)) (k : ∀ ds, Q ds → Always P (f ds)) : Always P (call f a e) := by
  rw [call_eq]
  exact h.bind k
theorem ok_a {α : Type} {P : α → Prop} {r : Res α} {a : α} (h : r = .ok a) (k : P a) : Always P r := by rw [h]; exact k
section
variable {n rm : Nat} {xs : List Deed}
theorem ask_in : Always (fun d => ∃ n : Nat, d = nD n ∧ 1 ≤ n ∧ n ≤ 3) (bin oidx (tupE (argC (cst (.int 1)) (argC (cst (.int 1)) (argC (cst (.int 2)) (argC (cst (.int 3)) argN))))) (call m_law_pick (argC (var 0) (argC (cst (.int 4)) argN))) [some poolD, none, none, none, none, none, none, none, none, none, none, none]) := by
  rw [bin_eq]
  show Always _ (Res.ok (Py.D.tup [.int 1, .int 1, .int 2, .int 3]) >>= fun x => call m_law_pick (argC (var 0) (argC (cst (.int 4)) argN)) [some poolD, none, none, none, none, none, none, none, none, none, none, none] >>= fun y => oidx x y)
  rw [bind_ok]
  refine (pickc (Q := fun d => ∃ i : Nat, i < 4 ∧ d = nD i) 4 rfl rfl rfl (by omega) (by omega) fun i hi => ⟨i, hi, rfl⟩).bind ?_
  rintro _ ⟨i, hi, rfl⟩
  have : i = 0 ∨ i = 1 ∨ i = 2 ∨ i = 3 := by omega
  rcases this with rfl | rfl | rfl | rfl
  · exact ⟨1, rfl, by omega, by omega⟩
  · exact ⟨1, rfl, by omega, by omega⟩
  · exact ⟨2, rfl, by omega, by omega⟩
  · exact ⟨3, rfl, by omega, by omega⟩
abbrev akE (n rm sz : Nat) (xs : List Deed) (out : Nat) (o6 : Option D) : Env := [some poolD, some (nD n), some (nD rm), some (nD sz), some (.lst (xs.map Deed.d)), some (nD out), o6, none, none, none, none, none]
def akO : SM := (Py.ite (tst (bin olt (var 6) (cst (.int 2)))) (asg (gnm 5) (call m_law_pick (argC (var 0) (argC (bin oadd (var 1) (un blen (var 4))) argN)))) (Py.ite (andT (tst (bin oeq (var 6) (cst (.int 2)))) (tst (bin ogt (un blen (var 4)) (cst (.int 0))))) (asg (gnm 5) (bin osub (bin osub (bin oadd (var 1) (un blen (var 4))) (cst (.int 1))) (bin bmin2 (un blen (var 4)) (bin oadd (cst (.int 1)) (call m_law_pick (argC (var 0) (argC (cst (.int 3)) argN))))))) skip))
theorem len_n {e : Env} {i : Nat} (h : e[i]? = some (some (.lst (xs.map Deed.d)))) : un blen (var i) e = .ok (nD xs.length) := by
  rw [un_eq, var_eq h, bind_ok, blen_l, List.length_map]
  rfl
theorem min_n (a b : Nat) : bmin2 (nD a) (nD b) = .ok (nD (if b < a then b else a)) := by
  unfold nD bmin2
  by_cases h : b < a
  · simp [h]
  · simp [h]
theorem ask_out {sz out t : Nat} (hn : 1 ≤ n) (hz : n + xs.length ≤ 1000) (ho : out < n + xs.length) : Always (NX fun e => ∃ out', out' < n + xs.length ∧ e = akE n rm sz xs out' (some (nD t))) (akO (akE n rm sz xs out (some (nD t)))) := by
  have hl := len_n (xs := xs) (e := akE n rm sz xs out (some (nD t))) (i := 4) rfl
  have ha := nadd n xs.length
  have hs := nsub (a := n + xs.length) (b := 1) (by omega)
  unfold akO
  refine ite_a (c := decide (t < 2)) ?_ (fun _ => ?_) fun _ => ite_a (c := decide (t = 2) && decide (0 < xs.length)) ?_ (fun h => ?_) fun _ => ⟨_, rfl, out, ho, rfl⟩
  · have := olt_n t 2
    show (olt (nD t) (nD 2)) >>= truthy = _
    rw [this]
    rfl
  · refine asg_1 (Q := fun d => ∃ a : Nat, a < n + xs.length ∧ d = nD a) (pickc (n + xs.length) rfl (d := nD (n + xs.length)) ?_ rfl (by omega) (by omega) fun i hi => ⟨i, hi, rfl⟩) ?_
    · rw [bin_eq, hl]
      exact ha
    · rintro _ ⟨a, hl, rfl⟩
      exact ⟨_, rfl, a, hl, rfl⟩
  · have q1 : oeq (nD t) (.int 2) = .ok (.bl (decide (t = 2))) := nat_eq t 2
    have q2 : ogt (nD xs.length) (.int 0) = .ok (.bl (decide (0 < xs.length))) := ogt_n xs.length 0
    rw [andT_eq, tst_eq, bin_eq, tst_eq, bin_eq, hl]
    show ((oeq (nD t) (.int 2) >>= truthy) >>= _) = _
    rw [q1]
    show (if decide (t = 2) = true then (ogt (nD xs.length) (.int 0) >>= truthy) else _) = _
    rw [q2]
    cases decide (t = 2) <;> rfl
  · have h0 : 0 < xs.length := by
      have := (Bool.and_eq_true _ _ ▸ h : _ ∧ _).2
      exact of_decide_eq_true this
    have p1 : Always (fun d => ∃ i : Nat, i < 3 ∧ d = nD (1 + i)) (bin oadd (cst (.int 1)) (call m_law_pick (argC (var 0) (argC (cst (.int 3)) argN))) (akE n rm sz xs out (some (nD t)))) := by
      rw [bin_eq, cst_eq, bind_ok]
      refine (pickc (Q := fun d => ∃ i : Nat, i < 3 ∧ d = nD i) 3 rfl rfl rfl (by omega) (by omega) fun i hi => ⟨i, hi, rfl⟩).bind ?_
      rintro _ ⟨i, hi, rfl⟩
      exact ok_a (nadd 1 i) ⟨i, hi, rfl⟩
    have p2 : Always (fun d => ∃ i : Nat, i ≤ xs.length ∧ d = nD i) (bin bmin2 (un blen (var 4)) (bin oadd (cst (.int 1)) (call m_law_pick (argC (var 0) (argC (cst (.int 3)) argN)))) (akE n rm sz xs out (some (nD t)))) := by
      rw [bin_eq, hl, bind_ok]
      refine p1.bind ?_
      rintro _ ⟨i, hi, rfl⟩
      refine ok_a (min_n _ _) ⟨_, ?_, rfl⟩
      split <;> omega
    refine asg_1 (Q := fun d => ∃ a : Nat, a < n + xs.length ∧ d = nD a) ?_ ?_
    · rw [bin_eq]
      refine Always.bind (Q := fun d => d = nD (n + xs.length - 1)) ?_ ?_
      · rw [bin_eq, bin_eq, hl]
        show Always _ (oadd (nD n) (nD xs.length) >>= fun x => osub x (nD 1))
        rw [ha, bind_ok, hs]
        rfl
      · rintro _ rfl
        refine p2.bind ?_
        rintro _ ⟨i, hi, rfl⟩
        exact ok_a (nsub (a := n + xs.length - 1) (b := i) (by omega)) ⟨_, by omega, rfl⟩
    · rintro _ ⟨a, hl, rfl⟩
      exact ⟨_, rfl, a, hl, rfl⟩
end
end Py.U
namespace Py.U
open PySem
/-! ### the law -/
abbrev ak2 (n rm sz : Nat) (xs : List Deed) (out : Nat) (o6 : Option D) (w : Nat) (o11 : Option D) : Env := [some poolD, some (nD n), some (nD rm), some (nD sz), some (.lst (xs.map Deed.d)), some (nD out), o6, some (.tup [nD n, .lst (xs.map Deed.d), nD out]), some (rowD n xs out), some (stD (ldK n xs out) (clA n xs rm)), some (nD w), o11]
def akC : TM := (orT (notT (tst (call m_law_asked (argC (var 8) (argC (var 7) (argC (var 9) (argC (var 10) argN))))))) (notT (tst (call m_law_asked (argC (var 8) (argC (var 7) (argC (var 9) (argC (call m_law_pick (argC (var 0) (argC (cst (.int 65)) argN))) argN))))))))
def akD : SM := (Py.ite (andT (tst (bin ole (bin omul (var 1) (var 10)) (cst (.int 8)))) (tst (bin oeq (call m_law_pick (argC (var 0) (argC (cst (.int 8)) argN))) (cst (.int 0))))) (Py.ite (tst (bin Py.one (call m_count_zeros (argC (var 8) (argC (var 10) argN))) (call m_law_plain (argC (var 1) (argC (var 4) (argC (var 5) (argC (var 10) argN))))))) (ret (cst (.bl false))) skip) skip)
def akX : SM := (Py.ite (tst (bin oeq (call m_law_pick (argC (var 0) (argC (cst (.int 3)) argN))) (cst (.int 0)))) (seq (asg (gnm 11) (bin oidx (lstE (argC (cst (.bl true)) (argC (cst (.bl false)) (argC (bin osub (un oneg (cst (.int 1))) (call m_law_pick (argC (var 0) (argC (cst (.int 70)) argN)))) (argC (cst .non) (argC (cst (.str "3")) (argC (tupE (argC (cst (.int 2)) argN)) argN))))))) (call m_law_pick (argC (var 0) (argC (cst (.int 6)) argN)))))
  (Py.ite (orT (notT (tst (call m_law_refused (argC (cst (.int 0)) (argC (var 8) (argC (var 11) argN)))))) (orT (notT (tst (call m_law_refused (argC (cst (.int 1)) (argC (var 8) (argC (var 11) argN)))))) (notT (tst (call m_law_asked (argC (var 8) (argC (var 7) (argC (var 9) (argC (var 10) argN))))))))) (ret (cst (.bl false))) skip)) skip)
section
variable {n rm sz out w : Nat} {xs : List Deed} {o6 o11 : Option D} (h1 : 1 ≤ n) (h3 : n ≤ 3) (hr : Row n xs) (hz : n + xs.length ≤ 1000) (ho : out < n + xs.length) (hp : prd (tops xs) ≤ rm) (hm : rm ≤ 1000) (hw : w ≤ 1000)
include h1 h3 hr hz ho hp hm hw
theorem ak_c : Always (fun c => c = false) (akC (ak2 n rm sz xs out o6 w o11)) := by
  unfold akC
  refine orT_a (tstN ?_) (tstN ?_)
  · exact ok_a (asked_ok h1 h3 hr hz ho hp hm hw) rfl
  · refine call_a (Q := fun ds => ∃ i : Nat, i < 65 ∧ ds = [rowD n xs out, .tup [nD n, .lst (xs.map Deed.d), nD out], stD (ldK n xs out) (clA n xs rm), nD i]) ?_ ?_
    · refine argC_k rfl (argC_k rfl (argC_k rfl (argC_l (Q := fun d => ∃ i : Nat, i < 65 ∧ d = nD i) (pickc 65 rfl rfl rfl (by omega) (by omega) fun i hi => ⟨i, hi, rfl⟩) ?_)))
      rintro _ ⟨i, hi, rfl⟩
      exact ⟨i, hi, rfl⟩
    · rintro _ ⟨i, hi, rfl⟩
      exact ok_a (asked_ok h1 h3 hr hz ho hp hm (by omega)) rfl
theorem ak_d : Always (NX fun e => e = ak2 n rm sz xs out o6 w o11) (akD (ak2 n rm sz xs out o6 w o11)) := by
  have hmul := nmul (a := n) (b := w) (by omega)
  have hle : ole (nD (n * w)) (.int 8) = .ok (.bl (decide (n * w ≤ 8))) := by
    show Res.ok (Py.D.bl (decide (((n * w : Nat) : Int) ≤ 8))) = _
    congr 2
    exact decide_eq_decide.mpr (by omega)
  have stay : Always (NX fun e => e = ak2 n rm sz xs out o6 w o11) (skip (ak2 n rm sz xs out o6 w o11)) := ⟨_, rfl, rfl⟩
  unfold akD
  rw [ite_eq, andT_eq, tst_eq, bin_eq, bin_eq]
  show Always _ ((((omul (nD n) (nD w) >>= fun x => ole x (.int 8)) >>= truthy) >>= _) >>= _)
  rw [hmul, bind_ok, hle]
  show Always _ ((if decide (n * w ≤ 8) = true then _ else _) >>= _)
  by_cases h : n * w ≤ 8
  · rw [if_pos (decide_eq_true h)]
    refine (pick0 8 rfl (by omega) (by omega)).bind fun c _ => ?_
    cases c
    · exact stay
    · have c1 := count_zeros_ok h1 h3 hr hz ho (by omega) hw
      have c2 := plain_ok h1 h3 hr hz ho h
      refine ite_a (c := false) ?_ (fun h => nomatch h) fun _ => stay
      show (m_count_zeros [rowD n xs out, nD w] >>= fun x => m_law_plain [nD n, .lst (xs.map Deed.d), nD out, nD w] >>= fun y => Py.one x y) >>= truthy = _
      rw [c1, c2]
      show Py.one (nD _) (nD _) >>= truthy = _
      simp [nD]
  · rw [if_neg (by simp [h])]
    exact stay
theorem ak_x : Always (NX fun e => ∃ o11, e = ak2 n rm sz xs out o6 w o11) (akX (ak2 n rm sz xs out o6 w o11)) := by
  unfold akX
  refine ite_any (pick0 3 rfl (by omega) (by omega)) ?_ ⟨_, rfl, o11, rfl⟩
  refine asg_a (Q := fun d => ∃ b1 b2 b3, Wr d b1 b2 b3) ?_ ?_
  · rw [bin_eq]
    refine Always.bind (Q := fun d => ∃ z : Int, z < 0 ∧ d = .lst [.bl true, .bl false, .int z, .non, .str "3", .tup [.int 2]]) ?_ ?_
    · rw [lstE_eq]
      refine Always.bind (Q := fun ys => ∃ z : Int, z < 0 ∧ ys = [.bl true, .bl false, .int z, .non, .str "3", .tup [.int 2]]) ?_ ?_
      · refine argC_k rfl (argC_k rfl ?_)
        rw [argC_eq]
        refine Always.bind (Q := fun d => ∃ z : Int, z < 0 ∧ d = .int z) ?_ ?_
        · rw [bin_eq]
          show Always _ (Res.ok (Py.D.int (-1)) >>= fun x => call m_law_pick (argC (var 0) (argC (cst (.int 70)) argN)) (ak2 n rm sz xs out o6 w o11) >>= fun y => osub x y)
          rw [bind_ok]
          refine (pickc (Q := fun d => ∃ i : Nat, d = nD i) 70 rfl rfl rfl (by omega) (by omega) fun i hi => ⟨i, rfl⟩).bind ?_
          rintro _ ⟨i, rfl⟩
          exact ⟨-1 - (i : Int), by omega, rfl⟩
        · rintro _ ⟨z, hz, rfl⟩
          exact ⟨z, hz, rfl⟩
      · rintro _ ⟨z, hz, rfl⟩
        exact ⟨z, hz, rfl⟩
    · rintro _ ⟨z, hz, rfl⟩
      refine (pickc (Q := fun d => ∃ i : Nat, i < 6 ∧ d = nD i) 6 rfl rfl rfl (by omega) (by omega) fun i hi => ⟨i, hi, rfl⟩).bind ?_
      rintro _ ⟨i, hi, rfl⟩
      have : i = 0 ∨ i = 1 ∨ i = 2 ∨ i = 3 ∨ i = 4 ∨ i = 5 := by omega
      rcases this with rfl | rfl | rfl | rfl | rfl | rfl
      · exact ⟨_, _, _, wr_bl true⟩
      · exact ⟨_, _, _, wr_bl false⟩
      · exact ⟨_, _, _, wr_neg hz⟩
      · exact ⟨_, _, _, wr_non⟩
      · exact ⟨_, _, _, wr_str⟩
      · exact ⟨_, _, _, wr_tup⟩
  · rintro X ⟨b1, b2, b3, hX⟩
    have q1 : m_law_refused [.int 0, rowD n xs out, X] = .ok (.bl true) := refused_ok hX _ (.inl rfl)
    have q2 : m_law_refused [.int 1, rowD n xs out, X] = .ok (.bl true) := refused_ok hX _ (.inr rfl)
    have q3 := asked_ok h1 h3 hr hz ho hp hm hw
    refine ite_a (c := false) ?_ (fun h => nomatch h) fun _ => ⟨_, rfl, some X, rfl⟩
    show orT _ _ (ak2 n rm sz xs out o6 w (some X)) = _
    simp only [ak2]
    generalize stD (ldK n xs out) (clA n xs rm) = ST at *
    generalize rowD n xs out = R at *
    generalize xs.map Deed.d = DS at *
    generalize nD n = N at *
    generalize nD out = OT at *
    generalize nD w = W at *
    generalize nD sz = SZZ at *
    generalize nD rm = RM at *
    simp [var, q1, q2, q3]
end
theorem ask_ok : Always (fun d => d = .bl true) (m_law_ask [poolD]) := by
  unfold m_law_ask
  rw [fn1]
  refine done_r ?_
  unfold b__law_ask
  refine asg_a ask_in ?_
  rintro _ ⟨n0, rfl, n01, n03⟩
  refine asg_d (d := nD (32 / n0)) ?_ ?_
  · exact fdiv_n (a := 32) (b := n0) (by omega) (by omega)
  refine seq_a (I := fun e => ∃ n rm : Nat, 1 ≤ n ∧ n ≤ 3 ∧ 1 ≤ rm ∧ rm ≤ 1000 ∧ e = [some poolD, some (nD n), some (nD rm), none, none, none, none, none, none, none, none, none]) (ite_any (pick0 40 rfl (by omega) (by omega)) ⟨_, rfl, 1, 1000, by omega, by omega, by omega, by omega, rfl⟩ ⟨_, rfl, n0, 32 / n0, n01, n03, ?_, ?_, rfl⟩) ?_
  · exact (Nat.le_div_iff_mul_le (by omega)).mpr (by omega)
  · exact Nat.le_trans (Nat.div_le_self _ _) (by omega)
  rintro _ ⟨n, rm, h1, h3, r1, r2, rfl⟩
  refine asg_a (Q := fun d => ∃ sz : Nat, sz ≤ 10 ∧ d = nD sz) (pickc 11 rfl rfl rfl (by omega) (by omega) fun i hi => ⟨i, by omega, rfl⟩) ?_
  rintro _ ⟨sz0, hs0, rfl⟩
  refine seq_a (I := fun e => ∃ sz : Nat, sz ≤ 10 ∧ e = [some poolD, some (nD n), some (nD rm), some (nD sz), none, none, none, none, none, none, none, none]) (ite_a (c := decide (rm = 1000)) ?_ (fun _ => ⟨_, rfl, 10, by omega, rfl⟩) fun _ => ⟨_, rfl, sz0, hs0, rfl⟩) ?_
  · have : oeq (nD rm) (.int 1000) = .ok (.bl (decide (rm = 1000))) := nat_eq rm 1000
    show oeq (nD rm) (.int 1000) >>= truthy = _
    rw [this]
    rfl
  rintro _ ⟨sz, hs, rfl⟩
  refine asg_a (Q := fun d => ∃ xs : List Deed, d = .lst (xs.map Deed.d) ∧ xs.length = sz ∧ Row n xs ∧ prd (tops xs) ≤ rm) (deeds_ok h1 (by omega) r1) ?_
  rintro _ ⟨xs, rfl, hl, hr, hp⟩
  have hz : n + xs.length ≤ 1000 := by omega
  refine asg_d (d := nD (n + xs.length - 1)) ?_ ?_
  · rw [bin_eq, bin_eq, len_n rfl]
    show (oadd (nD n) (nD xs.length) >>= fun x => osub x (nD 1)) = _
    rw [nadd, bind_ok, nsub (by omega)]
  refine asg_a (Q := fun d => ∃ t : Nat, d = nD t) (pickc 4 rfl rfl rfl (by omega) (by omega) fun i hi => ⟨i, rfl⟩) ?_
  rintro _ ⟨t, rfl⟩
  refine seq_a (ask_out (n := n) (rm := rm) (xs := xs) (sz := sz) (t := t) (out := n + xs.length - 1) h1 hz (by omega)) ?_
  rintro _ ⟨out, ho, rfl⟩
  refine asg_d (d := .tup [nD n, .lst (xs.map Deed.d), nD out]) rfl ?_
  refine asg_d (d := rowD n xs out) ?_ ?_
  · exact row_made_l h1 h3 hr (by omega) ho
  refine asg_d (d := stD (ldK n xs out) (clA n xs rm)) ?_ ?_
  · exact leads_ok h1 h3 hr hz ho hp r2
  refine asg_a (Q := fun d => ∃ w : Nat, w < 7 ∧ d = nD w) (pickc 7 rfl rfl rfl (by omega) (by omega) fun i hi => ⟨i, hi, rfl⟩) ?_
  rintro _ ⟨w, hw, rfl⟩
  refine chk_a (ak_c (sz := sz) (o6 := some (nD t)) (o11 := none) (w := w) h1 h3 hr hz ho hp r2 (by omega)) ?_
  refine seq_a (ak_d (sz := sz) (o6 := some (nD t)) (o11 := none) (w := w) h1 h3 hr hz ho hp r2 (by omega)) ?_
  rintro _ rfl
  refine seq_a (ak_x (sz := sz) (o6 := some (nD t)) (o11 := none) (w := w) h1 h3 hr hz ho hp r2 (by omega)) ?_
  rintro _ ⟨o11, rfl⟩
  exact ret_1 (d := .bl true) stays_ok rfl
/-- the script's cells as a pool -/
theorem allI_map : ∀ ns : List Int, (allI (ns.map .int)).isSome = true
  | [] => rfl
  | n :: ns => by
    have ih := allI_map ns
    show ((allI (ns.map .int)).map (n :: ·)).isSome = true
    cases h : allI (ns.map .int) with
    | none => rw [h] at ih; cases ih
    | some r => rfl
theorem law_true (ns : List Int) (h : ns.length ≤ 63) : Always (fun d => d = .bl true) (m_law [.lst (ns.map .int)]) := by
  have hc : cut (ns.map Py.D.int) none (some (63 : Int)) = ns.map Py.D.int := by
    show ((ns.map Py.D.int).drop 0).take (min 63 (ns.map Py.D.int).length - 0) = _
    rw [List.drop_zero, List.take_of_length_le (by rw [List.length_map]; omega)]
  have e1 : lcE (iseq (slc (var 0) none (some (cst (.int 63))))) [2] (gnm 2) yes (un bint (var 2)) [some (.lst (ns.map .int)), none, none] = .ok (.lst (ns.map .int)) := by
    refine lc_mapI (k := Py.D.int) (h := Py.D.int) (ys := ns) ?_ (le_sz (by omega)) fun z _ => ⟨[some (.lst (ns.map .int)), none, some (.int z)], rfl, rfl⟩
    show ((Res.ok (Py.D.lst (cut (ns.map Py.D.int) none (some 63)))) >>= _) = _
    rw [hc]
    rfl
  unfold m_law
  rw [fn1]
  unfold b_law
  refine done_r ?_
  refine asg_d (d := poolD) ?_ ?_
  · show (lstE _ _ >>= mkpF) = _
    rw [lstE_eq, argC_eq]
    show ((lcE (iseq (slc (var 0) none (some (cst (.int 63))))) [2] (gnm 2) yes (un bint (var 2)) [some (.lst (ns.map .int)), none, none] >>= _) >>= _) >>= mkpF = _
    rw [e1]
    show mkpF (.lst [.lst (ns.map .int), .int 0, .int 0, .int 1]) = _
    show (if (allI (ns.map .int)).isSome = true ∧ _ then _ else _) = _
    rw [if_pos ⟨allI_map ns, by omega, by omega, by omega⟩]
  · rw [thru_eq]
    refine Always.noexc (ret_r ?_)
    exact ask_ok
end Py.U
open PySem PySem.W PySem.Calls PyProof.Rows
theorem PySem.Challenge.cw_onlycarries_k63_zeros_of_rows_holds : PySem.Challenge.rw_onlycarries_k63_zeros_of_rows.Holds := by
  w_on; o_law
  refine HandSHeadRun.head_any (r := OpenLaw.row PySem.Challenge.rw_onlycarries_k63_zeros_of_rows) (q := view (OpenLaw.row PySem.Challenge.rw_onlycarries_k63_zeros_of_rows).prog [55]) (H := Py.hkY) (ob := Py.ob) (M := 8000) (loose := Py.lo) (d := HandSHeadRun.topDef (OpenLaw.row PySem.Challenge.rw_onlycarries_k63_zeros_of_rows).prog 55) (kwd := []) Py.ob_eq
    (by kernel_rfl) (fun s => by kernel_rfl) Py.run (by kernel_rfl) (by kernel_rfl) (by kernel_rfl) (by rfl) (by first | assumption | decide +kernel) (by decide +kernel) ⟨rfl, rfl, rfl, rfl, rfl, by decide +kernel⟩ ?hw ?hc
  case hw => w_witness2
  case hc =>
    refine Py.walk_ofW (l := PySem.Challenge.rw_onlycarries_k63_zeros_of_rows) (n := 63) (k := 10) (x := "script") (CX := fun w => L2N.CX PySem.Challenge.pw_onlycarries_k63_zeros_of_rows w) rfl (by decide) (by kernel_rfl) ⟨rfl, by decide, by decide⟩ ?F (fun _ _ _ _ _ z => Py.cx_none z)
    intro w mg fa h Y G hmg0
    obtain ⟨K, KX, c, m, xq⟩ := Y
    have hmg : mg ("law" : PySem.Str) = some (.ref fa) := by
      have e : (HandSHeadRun.topDef (OpenLaw.row PySem.Challenge.rw_onlycarries_k63_zeros_of_rows).prog 55).name = ("law" : PySem.Str) := by kernel_rfl
      rw [← e]
      exact hmg0
    have YY : Py.Fs (PySem.Challenge.rw_onlycarries_k63_zeros_of_rows).prog w K mg := ⟨⟨c, m, h, KX, G⟩, xq, by kernel_rfl, by kernel_rfl⟩
    have e2 := hmg.symm.trans (YY.glo 58)
    cases e2
    obtain ⟨fd, hb, hF⟩ := Py.law_is (P := (PySem.Challenge.rw_onlycarries_k63_zeros_of_rows).prog) YY
    exact ⟨K, fd, _, KX, hb, fun H a ns hl _ hS => Py.sp_lawA YY.noL (Py.U.law_true ns hl) hS, fun base _ _ => hF base⟩
